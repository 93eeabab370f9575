import PyProof.Rows.All
import Wide.All
import OpenK.AllK
import Wide.FinOn
import HandS.ForMost
import HandS.Walk
import HandS.Exc
import HandS.Lambda
import HandS.ExcInit
import HandS.WordsExc
import HandS.Defaults
import KE.GoesNew
import KE.GoesMore
import HandS.TupAny
import HandS.TupMul
import HandS.Wide
import HandS.IsInst
import HandS.Text
import HandS.MakeKw
import HandS.OwnEq
import HandS.MakeKwOnly
import HandS.Head2
import HandS.HeadEnd
import HandS.HeadHook2
import HandS.EndBits
import PyProof.FactsLen
import HandS.ExcField
import HandS.ExcOwn
import HandS.TryOnly
import HandS.TryMany
import HandS.Dict
import HandS.List
import PyProof.StrOps2
import HandS.Small
import KE.KDictPairs
import PySem.Challenge.RW_leastattr_k06_whole_trees_and_their_valu
set_option Elab.async false
set_option linter.all false
set_option maxRecDepth 100000
set_option autoImplicit false
set_option maxHeartbeats 1000000
/-! Dm: programs as functions over plain data. Values Vl (tuples, lists, dicts, instances by value; shared objects by number), what stands for them in the heap (Rep), what a step may change (Ext). -/
namespace Dm
open PySem PySem.Spec L2

inductive Vl where
  | non | bl (b : Bool) | int (i : Int) | str (x : Str)
  | tup (xs : List Vl) | lst (xs : List Vl)
  | dk (ks : List Key) (xs : List Vl) | dt (ks : List (List Key)) (xs : List Vl)
  | ins (c : Nat) (ns : List Str) (xs : List Vl)
  | ref (n : Nat)
  | scr (ns : List Int)
  | ftp (xs : List Vl)
  | tab (k : Nat) (q : Str)
  | exn (c : Nat) (ns : List Str) (xs : List Vl)
  | fdk (ks : List Key) (xs : List Vl) | fdt (ks : List (List Key)) (xs : List Vl)

/-- the script: locked, or written -/
def RdL (K : PySem.W.Frag) (B : Addr → Prop) (H : Hp) (a : Addr) (vs : List V) : Prop :=
  (Rd H a (.lst vs) ∧ ¬ B a) ∨
    ∃ (o : Obj) (its : Array Value) (n : Nat), K.lookup a = some o ∧ o.cls = .type "list" ∧ o.dict = none ∧ o.data = .seq its n ∧ its.size ≤ sizeLine ∧ Vals vs its.toList
theorem RdL.sq {K : PySem.W.Frag} {B : Addr → Prop} {H : Hp} {a : Addr} {vs : List V} (h : RdL K B H a vs) : SqL K H a vs := by
  rcases h with h | h
  · exact .inl h.1
  · exact .inr h

/-- the class table -/
abbrev Cl := Nat → Addr

/-- a table of code objects of the name q -/
def TabC (B : Addr → Prop) (H : Hp) (q : Str) (ps : Array Value) : Prop := TriplesOk ps.toList ∧ ∀ (pos : Pos) (cv : Value), codeAmong pos ps.toList = some cv → ∃ c, cv = .ref c ∧ H c = some (LamX.CodeO c q) ∧ ¬ B c
mutual
/-- x stands for v -/
inductive Rep (K : PySem.W.Frag) (cl : Cl) (B : Addr → Prop) (μ : List Addr) (H : Hp) : Vl → V → Prop
  | non : Rep K cl B μ H .non .non
  | bl (b : Bool) : Rep K cl B μ H (.bl b) (.bl b)
  | int (i : Int) : Rep K cl B μ H (.int i) (.int i)
  | str (x : Str) : Rep K cl B μ H (.str x) (.str x)
  | tup {xs : List Vl} {a : Addr} {vs : List V} : H a = some (.tup vs) → ¬ B a → Reps K cl B μ H xs vs → Rep K cl B μ H (.tup xs) (.ref a)
  | lst {xs : List Vl} {a : Addr} {vs : List V} : H a = some (.lst vs) → ¬ B a → Reps K cl B μ H xs vs → Rep K cl B μ H (.lst xs) (.ref a)
  | scr {ns : List Int} {a : Addr} : RdL K B H a (ns.map V.int) → Rep K cl B μ H (.scr ns) (.ref a)
  | ftp {xs : List Vl} {a : Addr} {vs : List V} {o : Obj} : H a = some (.frz o (.tup vs)) → o.dict = none → ¬ B a → Reps K cl B μ H xs vs → Rep K cl B μ H (.ftp xs) (.ref a)
  | dk {ks : List Key} {xs : List Vl} {a : Addr} {kvs : List (Key × V)} : H a = some (.dK kvs) → ¬ B a → kvs.map (·.1) = ks → Reps K cl B μ H xs (kvs.map (·.2)) → Rep K cl B μ H (.dk ks xs) (.ref a)
  | dt {ks : List (List Key)} {xs : List Vl} {a : Addr} {kvs : List (List Key × V)} : H a = some (.dT kvs) → ¬ B a → kvs.map (·.1) = ks → Reps K cl B μ H xs (kvs.map (·.2)) → Rep K cl B μ H (.dt ks xs) (.ref a)
  | ins {c : Nat} {ns : List Str} {xs : List Vl} {a dx : Addr} {fs : List (Str × V)} : H a = some (.ins (cl c) dx fs) → ¬ B a → fs.map (·.1) = ns → Reps K cl B μ H xs (fs.map (·.2)) → Rep K cl B μ H (.ins c ns xs) (.ref a)
  | ref {n : Nat} {a : Addr} : μ[n]? = some a → Rep K cl B μ H (.ref n) (.ref a)
  | tab {k : Nat} {q : Str} {a : Addr} {ps : Array Value} : a = cl k → H a = some (.tbl ps) → ¬ B a → TabC B H q ps → Rep K cl B μ H (.tab k q) (.ref a)
  | exn {c : Nat} {ns : List Str} {xs : List Vl} {a d : Addr} {fs : List (Str × V)} : H a = some (exo a (cl c) (some d)) → ¬ B a → H d = some (exd d fs) → ¬ B d → fs.map (·.1) = ns → Reps K cl B μ H xs (fs.map (·.2)) → Rep K cl B μ H (.exn c ns xs) (.ref a)
  | fdk {ks : List Key} {xs : List Vl} {a : Addr} {kvs : List (Key × V)} {o : Obj} : H a = some (.frz o (.dK kvs)) → ¬ B a → kvs.map (·.1) = ks → Reps K cl B μ H xs (kvs.map (·.2)) → Rep K cl B μ H (.fdk ks xs) (.ref a)
  | fdt {ks : List (List Key)} {xs : List Vl} {a : Addr} {kvs : List (List Key × V)} {o : Obj} : H a = some (.frz o (.dT kvs)) → ¬ B a → kvs.map (·.1) = ks → Reps K cl B μ H xs (kvs.map (·.2)) → Rep K cl B μ H (.fdt ks xs) (.ref a)
  | exz {c : Nat} {a : Addr} : H a = some (exo a (cl c) none) → ¬ B a → Rep K cl B μ H (.exn c [] []) (.ref a)
inductive Reps (K : PySem.W.Frag) (cl : Cl) (B : Addr → Prop) (μ : List Addr) (H : Hp) : List Vl → List V → Prop
  | nil : Reps K cl B μ H [] []
  | cons {x : Vl} {xs : List Vl} {v : V} {vs : List V} : Rep K cl B μ H x v → Reps K cl B μ H xs vs → Reps K cl B μ H (x :: xs) (v :: vs)
end
/-- the object o stands at a -/
inductive At (K : PySem.W.Frag) (cl : Cl) (B : Addr → Prop) (μ : List Addr) (H : Hp) (a : Addr) : Vl → Prop
  | lst {xs : List Vl} {vs : List V} : H a = some (.lst vs) → Reps K cl B μ H xs vs → At K cl B μ H a (.lst xs)
  | dk {ks : List Key} {xs : List Vl} {kvs : List (Key × V)} : H a = some (.dK kvs) → kvs.map (·.1) = ks → Reps K cl B μ H xs (kvs.map (·.2)) → At K cl B μ H a (.dk ks xs)
  | dt {ks : List (List Key)} {xs : List Vl} {kvs : List (List Key × V)} : H a = some (.dT kvs) → kvs.map (·.1) = ks → Reps K cl B μ H xs (kvs.map (·.2)) → At K cl B μ H a (.dt ks xs)
  | ins {c : Nat} {ns : List Str} {xs : List Vl} {dx : Addr} {fs : List (Str × V)} : H a = some (.ins (cl c) dx fs) → fs.map (·.1) = ns → Reps K cl B μ H xs (fs.map (·.2)) → At K cl B μ H a (.ins c ns xs)
  | tab {k : Nat} {q : Str} {ps : Array Value} : a = cl k → H a = some (.tbl ps) → TabC B H q ps → At K cl B μ H a (.tab k q)

section
variable {K : PySem.W.Frag} {cl : Cl} {B B' : Addr → Prop} {μ μ' : List Addr} {H H' : Hp}
/-- what Rep leans on is kept -/
structure Kp (B B' : Addr → Prop) (μ μ' : List Addr) (H H' : Hp) : Prop where
  obj : ∀ a o, H a = some o → ¬ B a → H' a = some o ∧ ¬ B' a
  num : ∀ (n : Nat) (a : Addr), μ[n]? = some a → μ'[n]? = some a
theorem Kp.rd (k : Kp B B' μ μ' H H') {a : Addr} {u : HO} (h : Rd H a u) (n : ¬ B a) : Rd H' a u ∧ ¬ B' a := by
  rcases h with h | ⟨o, h⟩
  · exact ⟨.inl (k.obj a _ h n).1, (k.obj a _ h n).2⟩
  · exact ⟨.inr ⟨o, (k.obj a _ h n).1⟩, (k.obj a _ h n).2⟩
theorem Kp.rdL (k : Kp B B' μ μ' H H') {a : Addr} {vs : List V} (h : RdL K B H a vs) : RdL K B' H' a vs := by
  rcases h with h | h
  · exact .inl (k.rd h.1 h.2)
  · exact .inr h
theorem TabC.mono (k : Kp B B' μ μ' H H') {q : Str} {ps : Array Value} (h : TabC B H q ps) : TabC B' H' q ps := ⟨h.1, fun pos cv hc => by
  obtain ⟨c, e1, e2, e3⟩ := h.2 pos cv hc
  exact ⟨c, e1, (k.obj _ _ e2 e3).1, (k.obj _ _ e2 e3).2⟩⟩
mutual
theorem Rep.mono (k : Kp B B' μ μ' H H') : ∀ {x : Vl} {v : V}, Rep K cl B μ H x v → Rep K cl B' μ' H' x v
  | _, _, .non => .non
  | _, _, .bl b => .bl b
  | _, _, .int i => .int i
  | _, _, .str x => .str x
  | _, _, .tup h n r => .tup (k.obj _ _ h n).1 (k.obj _ _ h n).2 (Reps.mono k r)
  | _, _, .lst h n r => .lst (k.obj _ _ h n).1 (k.obj _ _ h n).2 (Reps.mono k r)
  | _, _, .scr h => .scr (k.rdL h)
  | _, _, .ftp h d n r => .ftp (k.obj _ _ h n).1 d (k.obj _ _ h n).2 (Reps.mono k r)
  | _, _, .dk h n e r => .dk (k.obj _ _ h n).1 (k.obj _ _ h n).2 e (Reps.mono k r)
  | _, _, .dt h n e r => .dt (k.obj _ _ h n).1 (k.obj _ _ h n).2 e (Reps.mono k r)
  | _, _, .ins h n e r => .ins (k.obj _ _ h n).1 (k.obj _ _ h n).2 e (Reps.mono k r)
  | _, _, .ref h => .ref (k.num _ _ h)
  | _, _, .tab e h n t => .tab e (k.obj _ _ h n).1 (k.obj _ _ h n).2 (t.mono k)
  | _, _, .exn h n h2 n2 e r => .exn (k.obj _ _ h n).1 (k.obj _ _ h n).2 (k.obj _ _ h2 n2).1 (k.obj _ _ h2 n2).2 e (Reps.mono k r)
  | _, _, .fdk h n e r => .fdk (k.obj _ _ h n).1 (k.obj _ _ h n).2 e (Reps.mono k r)
  | _, _, .fdt h n e r => .fdt (k.obj _ _ h n).1 (k.obj _ _ h n).2 e (Reps.mono k r)
  | _, _, .exz h n => .exz (k.obj _ _ h n).1 (k.obj _ _ h n).2
theorem Reps.mono (k : Kp B B' μ μ' H H') : ∀ {xs : List Vl} {vs : List V}, Reps K cl B μ H xs vs → Reps K cl B' μ' H' xs vs
  | _, _, .nil => .nil
  | _, _, .cons r t => .cons (Rep.mono k r) (Reps.mono k t)
end
theorem Reps.length : ∀ {xs : List Vl} {vs : List V}, Reps K cl B μ H xs vs → xs.length = vs.length
  | _, _, .nil => rfl
  | _, _, .cons _ t => congrArg Nat.succ t.length
theorem Reps.get : ∀ {xs : List Vl} {vs : List V} {i : Nat} {x : Vl}, Reps K cl B μ H xs vs → xs[i]? = some x → ∃ v, vs[i]? = some v ∧ Rep K cl B μ H x v
  | _, _, _, _, .nil, e => by simp at e
  | _, _, 0, _, .cons r _, e => by simp at e; subst e; exact ⟨_, rfl, r⟩
  | _, _, i + 1, x, .cons _ t, e => by
    obtain ⟨v, h1, h2⟩ := t.get (i := i) (x := x) (by simpa using e)
    exact ⟨v, by simpa using h1, h2⟩
theorem Reps.get' : ∀ {xs : List Vl} {vs : List V} {i : Nat} {v : V}, Reps K cl B μ H xs vs → vs[i]? = some v → ∃ x, xs[i]? = some x ∧ Rep K cl B μ H x v
  | _, _, _, _, .nil, e => by simp at e
  | _, _, 0, _, .cons r _, e => by simp at e; subst e; exact ⟨_, rfl, r⟩
  | _, _, i + 1, x, .cons _ t, e => by
    obtain ⟨v, h1, h2⟩ := t.get' (i := i) (v := x) (by simpa using e)
    exact ⟨v, by simpa using h1, h2⟩
theorem Reps.append : ∀ {xs ys : List Vl} {vs ws : List V}, Reps K cl B μ H xs vs → Reps K cl B μ H ys ws → Reps K cl B μ H (xs ++ ys) (vs ++ ws)
  | _, _, _, _, .nil, s => s
  | _, _, _, _, .cons r t, s => .cons r (t.append s)
theorem Reps.snoc {xs : List Vl} {vs : List V} {x : Vl} {v : V} (r : Reps K cl B μ H xs vs) (h : Rep K cl B μ H x v) : Reps K cl B μ H (xs ++ [x]) (vs ++ [v]) := r.append (.cons h .nil)
theorem Reps.take : ∀ {xs : List Vl} {vs : List V} (n : Nat), Reps K cl B μ H xs vs → Reps K cl B μ H (xs.take n) (vs.take n)
  | _, _, 0, _ => .nil
  | _, _, _ + 1, .nil => .nil
  | _, _, n + 1, .cons r t => .cons r (t.take n)
theorem Reps.drop : ∀ {xs : List Vl} {vs : List V} (n : Nat), Reps K cl B μ H xs vs → Reps K cl B μ H (xs.drop n) (vs.drop n)
  | _, _, 0, r => r
  | _, _, _ + 1, .nil => .nil
  | _, _, n + 1, .cons _ t => t.drop n
theorem Reps.set {x : Vl} {v : V} (r : Rep K cl B μ H x v) : ∀ {xs : List Vl} {vs : List V} (i : Nat), Reps K cl B μ H xs vs → Reps K cl B μ H (xs.set i x) (vs.set i v)
  | _, _, _, .nil => .nil
  | _, _, 0, .cons _ t => .cons r t
  | _, _, i + 1, .cons q t => .cons q (Reps.set r i t)
theorem Reps.reverse : ∀ {xs : List Vl} {vs : List V}, Reps K cl B μ H xs vs → Reps K cl B μ H xs.reverse vs.reverse
  | _, _, .nil => .nil
  | _, _, .cons r t => by
    rw [List.reverse_cons, List.reverse_cons]
    exact t.reverse.snoc r
theorem At.mono (k : Kp B B' μ μ' H H') {a : Addr} {x : Vl} (e : ∀ o, H a = some o → H' a = some o) (h : At K cl B μ H a x) : At K cl B' μ' H' a x := by
  cases h with
  | lst h r => exact .lst (e _ h) (r.mono k)
  | dk h q r => exact .dk (e _ h) q (r.mono k)
  | dt h q r => exact .dt (e _ h) q (r.mono k)
  | ins h q r => exact .ins (e _ h) q (r.mono k)
  | tab g h t => exact .tab g (e _ h) (t.mono k)
theorem At.there {a : Addr} {x : Vl} (h : At K cl B μ H a x) : H a ≠ none := by
  cases h with
  | lst h _ => rw [h]; simp
  | dk h _ _ => rw [h]; simp
  | dt h _ _ => rw [h]; simp
  | ins h _ _ => rw [h]; simp
  | tab _ h _ => rw [h]; simp
/-- an object by itself, no more banned -/
theorem At.rep {a : Addr} {x : Vl} (h : At K cl B μ H a x) (n : ¬ B a) : Rep K cl B μ H x (.ref a) := by
  cases h with
  | lst h r => exact .lst h n r
  | dk h q r => exact .dk h n q r
  | dt h q r => exact .dt h n q r
  | ins h q r => exact .ins h n q r
  | tab g h t => exact .tab g h n t
end

/-- an object's content, read in the heap ahead of it -/
inductive Ho (K : PySem.W.Frag) (cl : Cl) (B : Addr → Prop) (μ : List Addr) (H : Hp) : Vl → HO → Prop
  | lst {xs : List Vl} {vs : List V} : Reps K cl B μ H xs vs → Ho K cl B μ H (.lst xs) (.lst vs)
  | dk {ks : List Key} {xs : List Vl} {kvs : List (Key × V)} : kvs.map (·.1) = ks → Reps K cl B μ H xs (kvs.map (·.2)) → Ho K cl B μ H (.dk ks xs) (.dK kvs)
  | dt {ks : List (List Key)} {xs : List Vl} {kvs : List (List Key × V)} : kvs.map (·.1) = ks → Reps K cl B μ H xs (kvs.map (·.2)) → Ho K cl B μ H (.dt ks xs) (.dT kvs)
  | ins {c : Nat} {ns : List Str} {xs : List Vl} {dx : Addr} {fs : List (Str × V)} : fs.map (·.1) = ns → Reps K cl B μ H xs (fs.map (·.2)) → Ho K cl B μ H (.ins c ns xs) (.ins (cl c) dx fs)
theorem Ho.mono {K : PySem.W.Frag} {cl : Cl} {B B' : Addr → Prop} {μ μ' : List Addr} {H H' : Hp} (k : Kp B B' μ μ' H H') {x : Vl} {o : HO} (h : Ho K cl B μ H x o) : Ho K cl B' μ' H' x o := by
  cases h with
  | lst r => exact .lst (r.mono k)
  | dk q r => exact .dk q (r.mono k)
  | dt q r => exact .dt q (r.mono k)
  | ins q r => exact .ins q (r.mono k)
theorem Ho.at {K : PySem.W.Frag} {cl : Cl} {B : Addr → Prop} {μ : List Addr} {H : Hp} {a : Addr} {x : Vl} {o : HO} (e : H a = some o) (h : Ho K cl B μ H x o) : At K cl B μ H a x := by
  cases h with
  | lst r => exact .lst e r
  | dk q r => exact .dk e q r
  | dt q r => exact .dt e q r
  | ins q r => exact .ins e q r
/-! ### the shared objects -/
abbrev Sto := List Vl
/-- banned: shared, or in W -/
def Bn (W : Addr → Prop) (μ : List Addr) : Addr → Prop := fun a => a ∈ μ ∨ W a
/-- there, and no tuple -/
def NT (x : Option HO) : Prop := ∃ o, x = some o ∧ ∀ vs, o ≠ .tup vs
theorem NT.upd {H : Hp} {a p : Addr} {o : HO} (h : NT (H a)) (ho : ∀ vs, o ≠ .tup vs) : NT (upd H p o a) := by
  unfold L2.upd
  split
  · exact ⟨o, rfl, ho⟩
  · exact h
theorem Ho.nt {K : PySem.W.Frag} {cl : Cl} {B : Addr → Prop} {μ : List Addr} {H : Hp} {x : Vl} {o : HO} (h : Ho K cl B μ H x o) : ∀ vs, o ≠ .tup vs := by
  cases h <;> intro vs z <;> cases z
structure Sim (K : PySem.W.Frag) (cl : Cl) (W : Addr → Prop) (μ : List Addr) (S : Sto) (H : Hp) : Prop where
  len : μ.length = S.length
  nd : μ.Nodup
  dis : ∀ a ∈ μ, ¬ W a
  trn : ∀ a, W a → NT (H a)
  obs : ∀ (n : Nat) (x : Vl), S[n]? = some x → ∃ a, μ[n]? = some a ∧ At K cl (Bn W μ) μ H a x
theorem NT.ne {x : Option HO} (h : NT x) : x ≠ none := by
  obtain ⟨o, e, _⟩ := h
  rw [e]
  simp
theorem At.nt {K : PySem.W.Frag} {cl : Cl} {B : Addr → Prop} {μ : List Addr} {H : Hp} {a : Addr} {x : Vl} (h : At K cl B μ H a x) : NT (H a) := by
  cases h with
  | lst h _ => exact ⟨_, h, fun _ z => nomatch z⟩
  | dk h _ _ => exact ⟨_, h, fun _ z => nomatch z⟩
  | dt h _ _ => exact ⟨_, h, fun _ z => nomatch z⟩
  | ins h _ _ => exact ⟨_, h, fun _ z => nomatch z⟩
  | tab _ h _ => exact ⟨_, h, fun _ z => nomatch z⟩
/-- what is banned is there, and no tuple -/
theorem Sim.nts {K : PySem.W.Frag} {cl : Cl} {W : Addr → Prop} {μ : List Addr} {S : Sto} {H : Hp} (s : Sim K cl W μ S H) {a : Addr} (h : Bn W μ a) : NT (H a) := by
  rcases h with h | h
  · obtain ⟨n, hn⟩ := List.getElem?_of_mem h
    have hl : n < S.length := by
      have := (List.getElem?_eq_some_iff.mp hn).1
      rw [s.len] at this; exact this
    obtain ⟨b, e1, e2⟩ := s.obs n _ (List.getElem?_eq_getElem hl)
    rw [hn] at e1; cases e1
    exact e2.nt
  · exact s.trn a h
theorem Sim.trk {K : PySem.W.Frag} {cl : Cl} {W : Addr → Prop} {μ : List Addr} {S : Sto} {H : Hp} (s : Sim K cl W μ S H) (a : Addr) (w : W a) : H a ≠ none := by
  obtain ⟨o, e, _⟩ := s.trn a w
  rw [e]
  simp
/-- what a step may change: shared objects; it may make new ones -/
structure Ext (μ : List Addr) (H : Hp) (μ' : List Addr) (H' : Hp) : Prop where
  keep : ∀ b o, H b = some o → b ∉ μ → H' b = some o
  dom : ∀ b, H b ≠ none → H' b ≠ none
  pre : ∀ (n : Nat) (a : Addr), μ[n]? = some a → μ'[n]? = some a
  new : ∀ a ∈ μ', a ∈ μ ∨ H a = none
theorem Ext.refl {μ : List Addr} {H : Hp} : Ext μ H μ H := ⟨fun _ _ e _ => e, fun _ e => e, fun _ _ e => e, fun _ e => .inl e⟩
theorem Ext.trans {μ μ1 μ2 : List Addr} {H H1 H2 : Hp} (p : Ext μ H μ1 H1) (q : Ext μ1 H1 μ2 H2) : Ext μ H μ2 H2 where
  keep := fun b o e n => q.keep b o (p.keep b o e n) fun z => by
    rcases p.new b z with z | z
    · exact n z
    · rw [e] at z; cases z
  dom := fun b e => q.dom b (p.dom b e)
  pre := fun n a e => q.pre n a (p.pre n a e)
  new := fun a z => by
    rcases q.new a z with z | z
    · exact p.new a z
    · refine .inr ?_
      cases e : H a with
      | none => rfl
      | some o => exact absurd z (p.dom a (by rw [e]; simp))
/-- a new object that is not shared -/
theorem Ext.fresh {μ : List Addr} {H : Hp} {p : Addr} {o : HO} (h : H p = none) : Ext μ H μ (upd H p o) :=
  ⟨fun b u e _ => by rw [upd_ne (ne_of_none e h)]; exact e, fun b e => by unfold upd; split <;> simp_all, fun _ _ e => e, fun _ e => .inl e⟩
theorem Ext.kp {W : Addr → Prop} {μ μ' : List Addr} {H H' : Hp} (e : Ext μ H μ' H') : Kp (Bn W μ) (Bn W μ') μ μ' H H' where
  obj := fun a o h n => by
    have n1 : a ∉ μ := fun z => n (.inl z)
    have n2 : ¬ W a := fun z => n (.inr z)
    refine ⟨e.keep a o h n1, fun z => ?_⟩
    rcases z with z | z
    · rcases e.new a z with z | z
      · exact n1 z
      · rw [h] at z; cases z
    · exact n2 z
  num := e.pre
theorem Sim.fresh {K : PySem.W.Frag} {cl : Cl} {W : Addr → Prop} {μ : List Addr} {S : Sto} {H : Hp} {p : Addr} {o : HO} (s : Sim K cl W μ S H) (h : H p = none) : Sim K cl W μ S (upd H p o) :=
  ⟨s.len, s.nd, s.dis, fun a w => by rw [upd_ne (fun z => s.trk a w (by rw [z]; exact h))]; exact s.trn a w, fun n x e => by
    obtain ⟨a, e1, e2⟩ := s.obs n x e
    exact ⟨a, e1, e2.mono (Ext.fresh h).kp fun o q => by rw [upd_ne (ne_of_none q h)]; exact q⟩⟩
/-- one more is banned -/
def Wa (W : Addr → Prop) (p : Addr) : Addr → Prop := fun b => W b ∨ b = p
theorem Ext.kpBan {W : Addr → Prop} {μ : List Addr} {H : Hp} {p : Addr} {o : HO} (h : H p = none) : Kp (Bn W μ) (Bn (Wa W p) μ) μ μ H (upd H p o) where
  obj := fun a u e n => ⟨by rw [upd_ne (ne_of_none e h)]; exact e, fun z => by
    rcases z with z | z | z
    · exact n (.inl z)
    · exact n (.inr z)
    · exact ne_of_none e h z⟩
  num := fun _ _ e => e
theorem Sim.freshBan {K : PySem.W.Frag} {cl : Cl} {W : Addr → Prop} {μ : List Addr} {S : Sto} {H : Hp} {p : Addr} {o : HO} (s : Sim K cl W μ S H) (h : H p = none) (hm : p ∉ μ) (ho : ∀ vs, o ≠ .tup vs := by first | exact Ho.nt (by assumption) | (intro _ z; cases z)) : Sim K cl (Wa W p) μ S (upd H p o) :=
  ⟨s.len, s.nd, fun a ha z => by
    rcases z with z | z
    · exact s.dis a ha z
    · exact hm (z ▸ ha), fun a w => by
    rcases w with w | w
    · exact (s.trn a w).upd ho
    · rw [w, upd_same]; exact ⟨o, rfl, ho⟩, fun n x e => by
    obtain ⟨a, e1, e2⟩ := s.obs n x e
    exact ⟨a, e1, e2.mono (Ext.kpBan h) fun o q => by rw [upd_ne (ne_of_none q h)]; exact q⟩⟩
/-- less is banned -/
theorem Kp.weak {W W' : Addr → Prop} {μ : List Addr} {H : Hp} (h : ∀ a, W' a → W a) : Kp (Bn W μ) (Bn W' μ) μ μ H H where
  obj := fun a o e n => ⟨e, fun z => n (z.elim .inl fun z => .inr (h a z))⟩
  num := fun _ _ e => e
theorem Sim.weak {K : PySem.W.Frag} {cl : Cl} {W W' : Addr → Prop} {μ : List Addr} {S : Sto} {H : Hp} (s : Sim K cl W μ S H) (h : ∀ a, W' a → W a) : Sim K cl W' μ S H :=
  ⟨s.len, s.nd, fun a ha z => s.dis a ha (h a z), fun a w => s.trn a (h a w), fun n x e => by
    obtain ⟨a, e1, e2⟩ := s.obs n x e
    exact ⟨a, e1, e2.mono (Kp.weak h) fun o q => q⟩⟩
theorem Sim.tracked {K : PySem.W.Frag} {cl : Cl} {W : Addr → Prop} {μ : List Addr} {S : Sto} {H : Hp} (s : Sim K cl W μ S H) {a : Addr} (h : Bn W μ a) : H a ≠ none := by
  rcases h with h | h
  · obtain ⟨n, hn⟩ := List.getElem?_of_mem h
    have hl : n < S.length := by
      have := (List.getElem?_eq_some_iff.mp hn).1
      rw [s.len] at this; exact this
    obtain ⟨b, e1, e2⟩ := s.obs n _ (List.getElem?_eq_getElem hl)
    rw [hn] at e1; cases e1
    exact e2.there
  · exact s.trk a h
theorem Sim.free {K : PySem.W.Frag} {cl : Cl} {W : Addr → Prop} {μ : List Addr} {S : Sto} {H : Hp} (s : Sim K cl W μ S H) {a : Addr} (h : H a = none) : ¬ Bn W μ a := fun z => s.tracked z h
end Dm

set_option Elab.async false
set_option linter.all false
set_option maxRecDepth 100000
set_option autoImplicit false
set_option maxHeartbeats 1000000
/-! Dm2: a body's state; what a mirror's answer gives; the judgements' readings by mirrors. -/
namespace Dm
open PySem PySem.Spec L2

/-- a local name: unset, a value, an object of its own -/
inductive Sv where
  | un | v (x : Vl) | ow (x : Vl) | sf (a : Addr) (x : Vl)

/-- an answer -/
inductive Res (α : Type) where
  | ok (a : α) (S : Sto)
  | exc (c : Nat) (ns : List Str) (xs : List Vl) (S : Sto)
  | bad
def Res.bind {α β : Type} (r : Res α) (k : α → Sto → Res β) : Res β := match r with
  | .ok a S => k a S
  | .exc c ns xs S => .exc c ns xs S
  | .bad => .bad
@[simp] theorem Res.bind_ok {α β : Type} (a : α) (S : Sto) (k : α → Sto → Res β) : (Res.ok a S).bind k = k a S := rfl
@[simp] theorem Res.bind_exc {α β : Type} (c : Nat) (ns : List Str) (xs : List Vl) (S : Sto) (k : α → Sto → Res β) : (Res.exc c ns xs S : Res α).bind k = .exc c ns xs S := rfl
@[simp] theorem Res.bind_bad {α β : Type} (k : α → Sto → Res β) : (Res.bad : Res α).bind k = .bad := rfl
abbrev EM := List Sv → Sto → Res Vl
abbrev TM := List Sv → Sto → Res Bool
abbrev AM := List Sv → Sto → Res (List Vl)

/-- the names -/
def Slot (K : PySem.W.Frag) (cl : Cl) (B : Addr → Prop) (μ : List Addr) (H : Hp) (ω : Option Addr) (e : Sv) (σ : Option V) : Prop := match e with
  | .un => ω = none
  | .v x => ω = none ∧ ∃ v, σ = some v ∧ Rep K cl B μ H x v
  | .ow x => ∃ a, ω = some a ∧ σ = some (.ref a) ∧ At K cl B μ H a x
  | .sf a x => ω = some a ∧ σ = some (.ref a) ∧ At K cl B μ H a x
def Wo (W : Addr → Prop) (ω : List (Option Addr)) : Addr → Prop := fun a => W a ∨ some a ∈ ω
structure Rl (K : PySem.W.Frag) (cl : Cl) (W : Addr → Prop) (ω : List (Option Addr)) (μ : List Addr) (S : Sto) (env : List Sv) (σ : St) (H : Hp) : Prop where
  sim : Sim K cl (Wo W ω) μ S H
  l1 : env.length = σ.length
  l2 : ω.length = σ.length
  at_ : ∀ (i : Nat) (e : Sv) (o : Option Addr) (s : Option V), env[i]? = some e → ω[i]? = some o → σ[i]? = some s → Slot K cl (Bn (Wo W ω) μ) μ H o e s
  od : ∀ (i j : Nat) (a : Addr), ω[i]? = some (some a) → ω[j]? = some (some a) → i = j
  ow : ∀ a, some a ∈ ω → ¬ W a
section
variable {K : PySem.W.Frag} {cl : Cl} {W : Addr → Prop} {ω : List (Option Addr)} {μ μ' : List Addr} {S S' : Sto} {env : List Sv} {σ : St} {H H' : Hp}
theorem Slot.mono {B B' : Addr → Prop} {o : Option Addr} {e : Sv} {s : Option V} (k : Kp B B' μ μ' H H') (ho : ∀ a u, o = some a → H a = some u → H' a = some u) (h : Slot K cl B μ H o e s) : Slot K cl B' μ' H' o e s := by
  cases e with
  | un => exact h
  | v x =>
    obtain ⟨e1, v, e2, r⟩ := h
    exact ⟨e1, v, e2, r.mono k⟩
  | ow x =>
    obtain ⟨a, e1, e2, r⟩ := h
    exact ⟨a, e1, e2, r.mono k fun u q => ho a u e1 q⟩
  | sf a x =>
    obtain ⟨e1, e2, r⟩ := h
    exact ⟨e1, e2, r.mono k fun u q => ho a u e1 q⟩
/-- behind a step of an expression -/
theorem Rl.ext (r : Rl K cl W ω μ S env σ H) (e : Ext μ H μ' H') (s : Sim K cl (Wo W ω) μ' S' H') : Rl K cl W ω μ' S' env σ H' where
  sim := s
  l1 := r.l1
  l2 := r.l2
  at_ := fun i x o s h1 h2 h3 => (r.at_ i x o s h1 h2 h3).mono e.kp fun a u z q => e.keep a u q fun hm => r.sim.dis a hm (.inr (by rw [← z]; exact List.mem_of_getElem? h2))
  od := r.od
  ow := r.ow
theorem Rl.fresh (r : Rl K cl W ω μ S env σ H) {p : Addr} {o : HO} (h : H p = none) : Rl K cl W ω μ S env σ (upd H p o) := r.ext (Ext.fresh h) (r.sim.fresh h)
theorem Rl.slot (r : Rl K cl W ω μ S env σ H) {i : Nat} {e : Sv} (h : env[i]? = some e) : ∃ o s, ω[i]? = some o ∧ σ[i]? = some s ∧ Slot K cl (Bn (Wo W ω) μ) μ H o e s := by
  have hl := (List.getElem?_eq_some_iff.mp h).1
  have h1 : i < ω.length := by rw [r.l2, ← r.l1]; exact hl
  have h2 : i < σ.length := by rw [← r.l1]; exact hl
  exact ⟨_, _, List.getElem?_eq_getElem h1, List.getElem?_eq_getElem h2, r.at_ i e _ _ h (List.getElem?_eq_getElem h1) (List.getElem?_eq_getElem h2)⟩
end

/-- an exception's own dict holds the fields -/
def XFs (K : PySem.W.Frag) (cl : Cl) (B : Addr → Prop) (μ : List Addr) (H : Hp) (d : Addr) (ns : List Str) (xs : List Vl) : Prop :=
  ∃ fs : List (Str × V), H d = some (.xd fs) ∧ fs.map (·.1) = ns ∧ Reps K cl B μ H xs (fs.map (·.2))

/-- what a mirror's answer gives of an expression: from (μ, H) -/
def SatG {α : Type} (K : PySem.W.Frag) (cl : Cl) (W : Addr → Prop) (μ : List Addr) (H : Hp) (r : Res α) (P : α → Sto → List Addr → Hp → Prop) (E : XK) : Prop := match r with
  | .ok a S' => ∀ μ' H', Sim K cl W μ' S' H' → Ext μ H μ' H' → P a S' μ' H'
  | .exc c ns xs S' => ∀ μ' H' d, Sim K cl W μ' S' H' → Ext μ H μ' H' → XFs K cl (Bn W μ') μ' H' d ns xs → E (.ref (cl c)) (some d) H'
  | .bad => False
theorem SatG.bind {α β : Type} {K : PySem.W.Frag} {cl : Cl} {W : Addr → Prop} {μ : List Addr} {H : Hp} {r : Res α} {k : α → Sto → Res β} {P : β → Sto → List Addr → Hp → Prop} {E : XK} (h : SatG K cl W μ H (r.bind k) P E) :
    SatG K cl W μ H r (fun a S1 μ1 H1 => SatG K cl W μ1 H1 (k a S1) (fun b S2 μ2 H2 => P b S2 μ2 H2) E) E := by
  cases r with
  | bad => exact h
  | exc c ns xs S1 => exact h
  | ok a S1 =>
    intro μ1 H1 s1 e1
    have h' : SatG K cl W μ H (k a S1) P E := h
    revert h'
    generalize k a S1 = q
    intro h'
    cases q with
    | bad => exact h'
    | exc c ns xs S2 => exact fun μ2 H2 d s2 e2 x => h' μ2 H2 d s2 (e1.trans e2) x
    | ok b S2 => exact fun μ2 H2 s2 e2 => h' μ2 H2 s2 (e1.trans e2)
theorem SatG.mono {α : Type} {K : PySem.W.Frag} {cl : Cl} {W : Addr → Prop} {μ : List Addr} {H : Hp} {r : Res α} {P P' : α → Sto → List Addr → Hp → Prop} {E : XK} (h : SatG K cl W μ H r P E)
    (m : ∀ a S' μ' H', r = .ok a S' → Sim K cl W μ' S' H' → Ext μ H μ' H' → P a S' μ' H' → P' a S' μ' H') : SatG K cl W μ H r P' E := by
  cases r with
  | bad => exact h
  | exc c ns xs S1 => exact h
  | ok a S1 => exact fun μ' H' s e => m a S1 μ' H' rfl s e (h μ' H' s e)

/-- an expression's reading by its mirror: strict (the value may go anywhere), loose (to be read at once), new (an object that nobody else knows) -/
def tD (K : PySem.W.Frag) (cl : Cl) (E : XK) (m : EM) : TE := fun σ H Q => ∃ W ω μ S env, Rl K cl W ω μ S env σ H ∧
  SatG K cl (Wo W ω) μ H (m env S) (fun x _ μ' H' => ∀ v, Rep K cl (Bn (Wo W ω) μ') μ' H' x v → Q v H') E
/-- banned but for this frame's own objects -/
def tL (K : PySem.W.Frag) (cl : Cl) (E : XK) (m : EM) : TE := fun σ H Q => ∃ W ω μ S env, Rl K cl W ω μ S env σ H ∧
  SatG K cl (Wo W ω) μ H (m env S) (fun x _ μ' H' => ∀ v, (Rep K cl (Bn (Wo W ω) μ') μ' H' x v ∨ ∃ a, v = .ref a ∧ some a ∈ ω ∧ At K cl (Bn (Wo W ω) μ') μ' H' a x) → Q v H') E
def tN (K : PySem.W.Frag) (cl : Cl) (E : XK) (m : EM) : TE := fun σ H Q => ∃ W ω μ S env, Rl K cl W ω μ S env σ H ∧
  SatG K cl (Wo W ω) μ H (m env S) (fun x S' μ' H' => ∀ a, H a = none → Sim K cl (Wa (Wo W ω) a) μ' S' H' → At K cl (Bn (Wa (Wo W ω) a) μ') μ' H' a x → Q (.ref a) H') E
def tDT (K : PySem.W.Frag) (cl : Cl) (E : XK) (m : TM) : TT := fun σ H Q => ∃ W ω μ S env, Rl K cl W ω μ S env σ H ∧
  SatG K cl (Wo W ω) μ H (m env S) (fun b _ _ H' => Q b H') E
def tDA (K : PySem.W.Frag) (cl : Cl) (E : XK) (m : AM) : TA := fun σ H Q => ∃ W ω μ S env, Rl K cl W ω μ S env σ H ∧
  SatG K cl (Wo W ω) μ H (m env S) (fun xs _ μ' H' => ∀ vs, Reps K cl (Bn (Wo W ω) μ') μ' H' xs vs → Q vs H') E

section
variable {X : Cx}
theorem _root_.L2.PE.imp {e : Expr} {t t' : TE} (h : PE X e t) (m : ∀ σ H Q, t' σ H Q → t σ H Q) : PE X e t' := ⟨fun pins s σ H Q I q => h.run pins s σ H Q I (m σ H Q q)⟩
theorem _root_.L2.PT.imp {e : Expr} {t t' : TT} (h : PT X e t) (m : ∀ σ H Q, t' σ H Q → t σ H Q) : PT X e t' := ⟨fun pins s σ H Q I q => h.run pins s σ H Q I (m σ H Q q)⟩
theorem _root_.L2.PW.imp {e : Expr} {t t' : TT} (h : PW X e t) (m : ∀ σ H Q, t' σ H Q → t σ H Q) : PW X e t' := ⟨fun wh pins s σ H Q I q => h.run wh pins s σ H Q I (m σ H Q q)⟩
theorem _root_.L2.PA.imp {e : List Expr} {t t' : TA} (h : PA X e t) (m : ∀ σ H Q, t' σ H Q → t σ H Q) : PA X e t' := ⟨fun pos pins s σ H Q I q => h.run pos pins s σ H Q I (m σ H Q q)⟩
theorem _root_.L2.PS.imp {e : Stmt} {t t' : TS} (h : PS X e t) (m : ∀ D σ H, t' D σ H → t D σ H) : PS X e t' := ⟨fun pins s σ H D I q => h.run pins s σ H D I (m D σ H q)⟩
theorem _root_.L2.PSs.imp {e : List Stmt} {t t' : TS} (h : PSs X e t) (m : ∀ D σ H, t' D σ H → t D σ H) : PSs X e t' := ⟨fun pins s σ H D I q => h.run pins s σ H D I (m D σ H q)⟩
variable {cl : Cl} {E : XK} {e : Expr} {m : EM}
/-- strict is loose -/
theorem sl (h : PE X e (tD X.K cl E m)) : PE X e (tL X.K cl E m) := h.imp fun σ H Q ⟨W, ω, μ, S, env, r, q⟩ =>
  ⟨W, ω, μ, S, env, r, q.mono fun x S' μ' H' _ _ _ k v rv => k v (.inl rv)⟩
/-- new is strict -/
theorem ns (h : PE X e (tN X.K cl E m)) : PE X e (tD X.K cl E m) := h.imp fun σ H Q ⟨W, ω, μ, S, env, r, q⟩ =>
  ⟨W, ω, μ, S, env, r, q.mono fun x S' μ' H' _ s _ k a ha sb at_ => k (.ref a) ((at_.mono (Kp.weak fun _ z => .inl z) fun _ q => q).rep fun z => z.elim (fun z => sb.dis a z (.inr rfl)) fun z => r.sim.trk a z ha)⟩
theorem nl (h : PE X e (tN X.K cl E m)) : PE X e (tL X.K cl E m) := sl (ns h)

/-! ### names, constants -/
def varM (i : Nat) : EM := fun env S => match env[i]? with
  | some (.v x) => .ok x S
  | _ => .bad
def varL (i : Nat) : EM := fun env S => match env[i]? with
  | some (.v x) => .ok x S
  | some (.ow x) => .ok x S
  | some (.sf _ x) => .ok x S
  | _ => .bad
def cM (x : Vl) : EM := fun _ S => .ok x S
theorem de_var {i : Nat} (h : PE X e (tVar i)) : PE X e (tD X.K cl E (varM i)) := h.imp fun σ H Q ⟨W, ω, μ, S, env, r, q⟩ => by
  unfold varM at q
  cases he : env[i]? with
  | none => rw [he] at q; exact q.elim
  | some z =>
    rw [he] at q
    cases z with
    | un => exact q.elim
    | ow x => exact q.elim
    | sf a x => exact q.elim
    | v x =>
      obtain ⟨o, s, h1, h2, _, v, h4, h5⟩ := r.slot he
      subst h4
      exact ⟨v, h2, q μ H r.sim Ext.refl v h5⟩
theorem de_varL {i : Nat} (h : PE X e (tVar i)) : PE X e (tL X.K cl E (varL i)) := h.imp fun σ H Q ⟨W, ω, μ, S, env, r, q⟩ => by
  unfold varL at q
  cases he : env[i]? with
  | none => rw [he] at q; exact q.elim
  | some z =>
    rw [he] at q
    cases z with
    | un => exact q.elim
    | ow x =>
      obtain ⟨o, s, h1, h2, a, h3, h4, h5⟩ := r.slot he
      subst h4
      exact ⟨.ref a, h2, q μ H r.sim Ext.refl _ (.inr ⟨a, rfl, by rw [← h3]; exact List.mem_of_getElem? h1, h5⟩)⟩
    | sf a x =>
      obtain ⟨o, s, h1, h2, h3, h4, h5⟩ := r.slot he
      subst h4
      exact ⟨.ref a, h2, q μ H r.sim Ext.refl _ (.inr ⟨a, rfl, by rw [← h3]; exact List.mem_of_getElem? h1, h5⟩)⟩
    | v x =>
      obtain ⟨o, s, h1, h2, _, v, h4, h5⟩ := r.slot he
      subst h4
      exact ⟨v, h2, q μ H r.sim Ext.refl v (.inl h5)⟩
/-- a constant: its value needs no heap -/
theorem de_c {x : Vl} {v : V} (h : PE X e (tC v)) (hr : ∀ B μ H, Rep X.K cl B μ H x v) : PE X e (tD X.K cl E (cM x)) := h.imp fun σ H Q ⟨W, ω, μ, S, env, r, q⟩ => q μ H r.sim Ext.refl v (hr _ _ _)
theorem de_int {i : Int} {j : Nat} {pos : Pos} : PE X (.Constant (.int i) j pos) (tD X.K cl E (cM (.int i))) := de_c pe_int fun _ _ _ => .int i
theorem de_str {i : Str} {j : Nat} {pos : Pos} : PE X (.Constant (.str i) j pos) (tD X.K cl E (cM (.str i))) := de_c pe_str fun _ _ _ => .str i
theorem de_bl {i : Bool} {j : Nat} {pos : Pos} : PE X (.Constant (.bool i) j pos) (tD X.K cl E (cM (.bl i))) := de_c pe_bl fun _ _ _ => .bl i
theorem de_non {j : Nat} {pos : Pos} : PE X (.Constant .none j pos) (tD X.K cl E (cM .non)) := de_c pe_non fun _ _ _ => .non

/-! ### operators by values -/
/-- the loose relation of a value -/
def RepL (K : PySem.W.Frag) (cl : Cl) (W : Addr → Prop) (ω : List (Option Addr)) (μ : List Addr) (H : Hp) (x : Vl) (v : V) : Prop :=
  Rep K cl (Bn (Wo W ω) μ) μ H x v ∨ ∃ a, v = .ref a ∧ some a ∈ ω ∧ At K cl (Bn (Wo W ω) μ) μ H a x
theorem RepL.mono {K : PySem.W.Frag} {W : Addr → Prop} {ω : List (Option Addr)} {μ μ' : List Addr} {S : Sto} {H H' : Hp} {x : Vl} {v : V} (s : Sim K cl (Wo W ω) μ S H) (e : Ext μ H μ' H') (h : RepL K cl W ω μ H x v) : RepL K cl W ω μ' H' x v := by
  rcases h with h | ⟨a, e1, e2, e3⟩
  · exact .inl (h.mono e.kp)
  · exact .inr ⟨a, e1, e2, e3.mono e.kp fun o q => e.keep a o q fun z => s.dis a z (.inr e2)⟩
abbrev F2 := Sto → Vl → Vl → Option Vl
def bin2 (f : F2) (a b : EM) : EM := fun env S => (a env S).bind fun x S1 => (b env S1).bind fun y S2 => match f S2 x y with
  | some v => .ok v S2
  | none => .bad
/-- f's answer is what the rule r gives; the value is made new or is an old one -/
def Op2 (X : Cx) (cl : Cl) (r : R2) (f : F2) : Prop := ∀ (W : Addr → Prop) (ω : List (Option Addr)) (μ : List Addr) (S : Sto) (H : Hp) (x y z : Vl) (v u : V) (Q : VK), Sim X.K cl (Wo W ω) μ S H → RepL X.K cl W ω μ H x v → RepL X.K cl W ω μ H y u →
  f S x y = some z → (∀ H' v', Sim X.K cl (Wo W ω) μ S H' → Ext μ H μ H' → Rep X.K cl (Bn (Wo W ω) μ) μ H' z v' → Q v' H') → r v u H Q
/-- .. a new object -/
def Op2N (X : Cx) (cl : Cl) (r : R2) (f : F2) : Prop := ∀ (W : Addr → Prop) (ω : List (Option Addr)) (μ : List Addr) (S : Sto) (H : Hp) (x y z : Vl) (v u : V) (Q : VK), Sim X.K cl (Wo W ω) μ S H → RepL X.K cl W ω μ H x v → RepL X.K cl W ω μ H y u →
  f S x y = some z → (∀ a o, H a = none → Ho X.K cl (Bn (Wo W ω) μ) μ H z o → Q (.ref a) (upd H a o)) → r v u H Q
theorem fresh_back {μ μ' : List Addr} {H H' : Hp} (e : Ext μ H μ' H') {a : Addr} (h : H' a = none) : H a = none := by
  cases q : H a with
  | none => rfl
  | some o => exact absurd h (e.dom a (by rw [q]; simp))
theorem de_bin_t {ma mb : EM} {r : R2} {f : F2} (hf : Op2 X cl r f) {σ : St} {H : Hp} {Q : VK} (h : tD X.K cl E (bin2 f ma mb) σ H Q) : tOp r (tL X.K cl E ma) (tL X.K cl E mb) σ H Q := by
  obtain ⟨W, ω, μ, S, env, rl, q⟩ := h
  refine ⟨W, ω, μ, S, env, rl, q.bind.mono fun x S1 μ1 H1 _ s1 e1 q1 v rv => ?_⟩
  refine ⟨W, ω, μ1, S1, env, rl.ext e1 s1, q1.bind.mono fun y S2 μ2 H2 _ s2 e2 q2 u ru => ?_⟩
  cases hz : f S2 x y with
  | none => rw [hz] at q2; exact q2.elim
  | some z =>
    rw [hz] at q2
    exact hf W ω μ2 S2 H2 x y z v u Q s2 (RepL.mono s1 e2 rv) ru hz fun H' v' s' e' r' => q2 μ2 H' s' e' v' r'
theorem de_bin_n {ma mb : EM} {r : R2} {f : F2} (hf : Op2N X cl r f) {σ : St} {H : Hp} {Q : VK} (h : tN X.K cl E (bin2 f ma mb) σ H Q) : tOp r (tL X.K cl E ma) (tL X.K cl E mb) σ H Q := by
  obtain ⟨W, ω, μ, S, env, rl, q⟩ := h
  refine ⟨W, ω, μ, S, env, rl, q.bind.mono fun x S1 μ1 H1 _ s1 e1 q1 v rv => ?_⟩
  refine ⟨W, ω, μ1, S1, env, rl.ext e1 s1, q1.bind.mono fun y S2 μ2 H2 _ s2 e2 q2 u ru => ?_⟩
  cases hz : f S2 x y with
  | none => rw [hz] at q2; exact q2.elim
  | some z =>
    rw [hz] at q2
    exact hf W ω μ2 S2 H2 x y z v u Q s2 (RepL.mono s1 e2 rv) ru hz fun a o ha r' => q2 μ2 _ (s2.fresh ha) (Ext.fresh ha) a (fresh_back e1 (fresh_back e2 ha)) (s2.freshBan ha fun z => s2.tracked (.inl z) ha) ((r'.mono (Ext.kpBan ha)).at upd_same)
variable {a b : Expr} {ma mb : EM} {pos : Pos}
theorem de_op {op : Operator} {r : R2} {f : F2} (ho : OpR X (binaryOp op) r) (hf : Op2 X cl r f) (ha : PE X a (tL X.K cl E ma)) (hb : PE X b (tL X.K cl E mb)) : PE X (.BinOp a op b pos) (tD X.K cl E (bin2 f ma mb)) :=
  (pe_op ho ha hb).imp fun _ _ _ h => de_bin_t hf h
theorem de_opN {op : Operator} {r : R2} {f : F2} (ho : OpR X (binaryOp op) r) (hf : Op2N X cl r f) (ha : PE X a (tL X.K cl E ma)) (hb : PE X b (tL X.K cl E mb)) : PE X (.BinOp a op b pos) (tN X.K cl E (bin2 f ma mb)) :=
  (pe_op ho ha hb).imp fun _ _ _ h => de_bin_n hf h
theorem de_ix {r : R2} {f : F2} (ho : IxR X r) (hf : Op2 X cl r f) (ha : PE X a (tL X.K cl E ma)) (hb : PE X b (tL X.K cl E mb)) (hs : PlainIx b) : PE X (.Subscript a b pos) (tD X.K cl E (bin2 f ma mb)) :=
  (pe_ix ho ha hb hs).imp fun _ _ _ h => de_bin_t hf h
theorem de_cmp {op : CmpOp} {r : R2} {f : F2} (ho : OpR X (compareOp op) r) (hf : Op2 X cl r f) (ha : PE X a (tL X.K cl E ma)) (hb : PE X b (tL X.K cl E mb)) (hm : behindInMarks op b = false) : PE X (.Compare a [op] [b] pos) (tD X.K cl E (bin2 f ma mb)) :=
  (pe_cmpR ho ha hb hm).imp fun _ _ _ h => de_bin_t hf h
end
end Dm

set_option Elab.async false
set_option linter.all false
set_option maxRecDepth 100000
set_option autoImplicit false
set_option maxHeartbeats 1000000
/-! Dm3: unary operators, tests, and, or, not, conditional expressions, chains, argument lists, displays, statements, defs and their calls. -/
namespace Dm
open PySem PySem.Spec L2
section
variable {X : Cx} {cl : Cl} {E : XK} {e a b c : Expr} {m ma mb mc : EM} {pos : Pos}

/-! ### one value -/
abbrev F1 := Sto → Vl → Option Vl
def un1 (f : F1) (a : EM) : EM := fun env S => (a env S).bind fun x S1 => match f S1 x with
  | some v => .ok v S1
  | none => .bad
def Op1 (X : Cx) (cl : Cl) (r : V → Hp → VK → Prop) (f : F1) : Prop := ∀ (W : Addr → Prop) (ω : List (Option Addr)) (μ : List Addr) (S : Sto) (H : Hp) (x z : Vl) (v : V) (Q : VK), Sim X.K cl (Wo W ω) μ S H → RepL X.K cl W ω μ H x v →
  f S x = some z → (∀ H' v', Sim X.K cl (Wo W ω) μ S H' → Ext μ H μ H' → Rep X.K cl (Bn (Wo W ω) μ) μ H' z v' → Q v' H') → r v H Q
theorem de_un_t {r : V → Hp → VK → Prop} {f : F1} (hf : Op1 X cl r f) {σ : St} {H : Hp} {Q : VK} (h : tD X.K cl E (un1 f ma) σ H Q) : tUn r (tL X.K cl E ma) σ H Q := by
  obtain ⟨W, ω, μ, S, env, rl, q⟩ := h
  refine ⟨W, ω, μ, S, env, rl, q.bind.mono fun x S1 μ1 H1 _ s1 e1 q1 v rv => ?_⟩
  cases hz : f S1 x with
  | none => rw [hz] at q1; exact q1.elim
  | some z =>
    rw [hz] at q1
    exact hf W ω μ1 S1 H1 x z v Q s1 rv hz fun H' v' s' e' r' => q1 μ1 H' s' e' v' r'
theorem de_un {op : UnaryOp} {r : V → Hp → VK → Prop} {f : F1} (ho : UnR X (unaryOp op) r) (hf : Op1 X cl r f) (ha : PE X a (tL X.K cl E ma)) : PE X (.UnaryOp op a pos) (tD X.K cl E (un1 f ma)) :=
  (pe_un ho ha).imp fun _ _ _ h => de_un_t hf h

/-! ### tests -/
def tv (m : EM) : TM := fun env S => (m env S).bind fun x S1 => match x with
  | .bl b => .ok b S1
  | _ => .bad
theorem tv_t {σ : St} {H : Hp} {Q : Bool → Hp → Prop} (h : tDT X.K cl E (tv m) σ H Q) : tD X.K cl E m σ H fun x H1 => ∃ k, x = .bl k ∧ Q k H1 := by
  obtain ⟨W, ω, μ, S, env, rl, q⟩ := h
  refine ⟨W, ω, μ, S, env, rl, q.bind.mono fun x S1 μ1 H1 _ s1 e1 q1 v rv => ?_⟩
  cases x with
  | bl b =>
    cases rv
    exact ⟨b, rfl, q1 μ1 H1 s1 Ext.refl⟩
  | _ => exact q1.elim
theorem dt_val (h : PE X e (tD X.K cl E m)) (he : ∀ whole, isTrue e X.env whole = (do let v ← whole; standAt e.pos; holding [v] (truthy v)) := by intro _; rfl) : PT X e (tDT X.K cl E (tv m)) :=
  (pt_val h he).imp fun _ _ _ h => tv_t h
theorem dt_cmp {op : CmpOp} {r : R2} {f : F2} (ho : OpR X (compareOp op) r) (hf : Op2 X cl r f) (ha : PE X a (tL X.K cl E ma)) (hb : PE X b (tL X.K cl E mb)) (hm : behindInMarks op b = false) : PT X (.Compare a [op] [b] pos) (tDT X.K cl E (tv (bin2 f ma mb))) :=
  (pt_cmpR ho ha hb hm).imp fun _ _ _ h => de_bin_t hf (by
    obtain ⟨W, ω, μ, S, env, rl, q⟩ := tv_t h
    exact ⟨W, ω, μ, S, env, rl, q⟩)
/-- truth of anything -/
abbrev FT := Sto → Vl → Option Bool
def tru (f : FT) (m : EM) : TM := fun env S => (m env S).bind fun x S1 => match f S1 x with
  | some b => .ok b S1
  | none => .bad
def TruOk (X : Cx) (cl : Cl) (f : FT) : Prop := ∀ (W : Addr → Prop) (ω : List (Option Addr)) (μ : List Addr) (S : Sto) (H : Hp) (x : Vl) (v : V) (k : Bool), Sim X.K cl (Wo W ω) μ S H → RepL X.K cl W ω μ H x v → f S x = some k → TruV X.K v H k
theorem dt_truth {f : FT} (hf : TruOk X cl f) (h : PE X e (tL X.K cl E m)) (he : ∀ whole, isTrue e X.env whole = (do let v ← whole; standAt e.pos; holding [v] (truthy v)) := by intro _; rfl) : PT X e (tDT X.K cl E (tru f m)) :=
  (pt_truth h he).imp fun σ H Q h => by
    obtain ⟨W, ω, μ, S, env, rl, q⟩ := h
    refine ⟨W, ω, μ, S, env, rl, q.bind.mono fun x S1 μ1 H1 _ s1 e1 q1 v rv => ?_⟩
    cases hz : f S1 x with
    | none => rw [hz] at q1; exact q1.elim
    | some k =>
      rw [hz] at q1
      exact ⟨k, hf W ω μ1 S1 H1 x v k s1 rv hz, q1 μ1 H1 s1 Ext.refl⟩
variable {tA tB : TM} {rest : List Expr}
def andT (a b : TM) : TM := fun env S => (a env S).bind fun c S1 => if c then b env S1 else .ok false S1
def orT (a b : TM) : TM := fun env S => (a env S).bind fun c S1 => if c then .ok true S1 else b env S1
def notT (a : TM) : TM := fun env S => (a env S).bind fun c S1 => .ok (!c) S1
theorem dw_and1 (ha : PT X a (tDT X.K cl E tA)) : PW X (.BoolOp .And [a] pos) (tDT X.K cl E tA) := pw_and1 ha
theorem dw_or1 (ha : PT X a (tDT X.K cl E tA)) : PW X (.BoolOp .Or [a] pos) (tDT X.K cl E tA) := pw_or1 ha
theorem dw_and (ha : PT X a (tDT X.K cl E tA)) (hb : PW X (.BoolOp .And (b :: rest) pos) (tDT X.K cl E tB)) : PW X (.BoolOp .And (a :: b :: rest) pos) (tDT X.K cl E (andT tA tB)) :=
  (pw_and ha hb).imp fun σ H Q h => by
    obtain ⟨W, ω, μ, S, env, rl, q⟩ := h
    refine ⟨W, ω, μ, S, env, rl, q.bind.mono fun k S1 μ1 H1 _ s1 e1 q1 => ?_⟩
    cases k with
    | true => exact ⟨W, ω, μ1, S1, env, rl.ext e1 s1, q1⟩
    | false => exact q1 μ1 H1 s1 Ext.refl
theorem dw_or (ha : PT X a (tDT X.K cl E tA)) (hb : PW X (.BoolOp .Or (b :: rest) pos) (tDT X.K cl E tB)) : PW X (.BoolOp .Or (a :: b :: rest) pos) (tDT X.K cl E (orT tA tB)) :=
  (pw_or ha hb).imp fun σ H Q h => by
    obtain ⟨W, ω, μ, S, env, rl, q⟩ := h
    refine ⟨W, ω, μ, S, env, rl, q.bind.mono fun k S1 μ1 H1 _ s1 e1 q1 => ?_⟩
    cases k with
    | false => exact ⟨W, ω, μ1, S1, env, rl.ext e1 s1, q1⟩
    | true => exact q1 μ1 H1 s1 Ext.refl
theorem dt_not (ha : PT X a (tDT X.K cl E tA)) : PT X (.UnaryOp .Not a pos) (tDT X.K cl E (notT tA)) :=
  (pt_not ha).imp fun σ H Q h => by
    obtain ⟨W, ω, μ, S, env, rl, q⟩ := h
    exact ⟨W, ω, μ, S, env, rl, q.bind.mono fun k S1 μ1 H1 _ s1 e1 q1 => q1 μ1 H1 s1 Ext.refl⟩
/-- and, or, not as values: bools -/
def andV (a b : EM) : EM := fun env S => (a env S).bind fun x S1 => match x with
  | .bl c => if c then b env S1 else .ok (.bl false) S1
  | _ => .bad
def orV (a b : EM) : EM := fun env S => (a env S).bind fun x S1 => match x with
  | .bl c => if c then .ok (.bl true) S1 else b env S1
  | _ => .bad
def notV (a : EM) : EM := fun env S => (a env S).bind fun x S1 => match x with
  | .bl c => .ok (.bl (!c)) S1
  | _ => .bad
theorem de_one {op : BoolOp} (h : PE X a (tD X.K cl E m)) : PE X (.BoolOp op [a] pos) (tD X.K cl E m) := pe_one h
theorem de_and (ha : PE X a (tD X.K cl E ma)) (hb : PE X (.BoolOp .And (b :: rest) pos) (tD X.K cl E mb)) : PE X (.BoolOp .And (a :: b :: rest) pos) (tD X.K cl E (andV ma mb)) :=
  (pe_and ha hb).imp fun σ H Q h => by
    obtain ⟨W, ω, μ, S, env, rl, q⟩ := h
    refine ⟨W, ω, μ, S, env, rl, q.bind.mono fun x S1 μ1 H1 _ s1 e1 q1 v rv => ?_⟩
    cases x with
    | bl k =>
      cases rv
      refine ⟨k, rfl, ?_⟩
      cases k with
      | true => exact ⟨W, ω, μ1, S1, env, rl.ext e1 s1, q1⟩
      | false => exact q1 μ1 H1 s1 Ext.refl _ (.bl false)
    | _ => exact q1.elim
theorem de_or (ha : PE X a (tD X.K cl E ma)) (hb : PE X (.BoolOp .Or (b :: rest) pos) (tD X.K cl E mb)) : PE X (.BoolOp .Or (a :: b :: rest) pos) (tD X.K cl E (orV ma mb)) :=
  (pe_or ha hb).imp fun σ H Q h => by
    obtain ⟨W, ω, μ, S, env, rl, q⟩ := h
    refine ⟨W, ω, μ, S, env, rl, q.bind.mono fun x S1 μ1 H1 _ s1 e1 q1 v rv => ?_⟩
    cases x with
    | bl k =>
      cases rv
      refine ⟨k, rfl, ?_⟩
      cases k with
      | false => exact ⟨W, ω, μ1, S1, env, rl.ext e1 s1, q1⟩
      | true => exact q1 μ1 H1 s1 Ext.refl _ (.bl true)
    | _ => exact q1.elim
theorem de_not (ha : PE X a (tD X.K cl E ma)) : PE X (.UnaryOp .Not a pos) (tD X.K cl E (notV ma)) :=
  (pe_not ha).imp fun σ H Q h => by
    obtain ⟨W, ω, μ, S, env, rl, q⟩ := h
    refine ⟨W, ω, μ, S, env, rl, q.bind.mono fun x S1 μ1 H1 _ s1 e1 q1 v rv => ?_⟩
    cases x with
    | bl k =>
      cases rv
      exact ⟨k, rfl, q1 μ1 H1 s1 Ext.refl _ (.bl _)⟩
    | _ => exact q1.elim
/-- a if c else b -/
def ifM (c : TM) (a b : EM) : EM := fun env S => (c env S).bind fun k S1 => if k then a env S1 else b env S1
theorem de_if (hc : PT X c (tDT X.K cl E tA)) (ha : PE X a (tD X.K cl E ma)) (hb : PE X b (tD X.K cl E mb)) : PE X (.IfExp c a b pos) (tD X.K cl E (ifM tA ma mb)) :=
  (pe_ifExp hc ha hb).imp fun σ H Q h => by
    obtain ⟨W, ω, μ, S, env, rl, q⟩ := h
    refine ⟨W, ω, μ, S, env, rl, q.bind.mono fun k S1 μ1 H1 _ s1 e1 q1 => ?_⟩
    cases k with
    | true => exact ⟨W, ω, μ1, S1, env, rl.ext e1 s1, q1⟩
    | false => exact ⟨W, ω, μ1, S1, env, rl.ext e1 s1, q1⟩
/-- a op b op' c -/
def ch3 (f g : F2) (a b c : EM) : EM := fun env S => (a env S).bind fun x S1 => (b env S1).bind fun y S2 => match f S2 x y with
  | some (.bl k) => if k then (c env S2).bind fun z S3 => (match g S3 y z with | some v => .ok v S3 | none => .bad) else .ok (.bl false) S2
  | _ => .bad
theorem ch3_t {r r' : R2} {f g : F2} (hf : Op2 X cl r f) (hg : Op2 X cl r' g) {σ : St} {H : Hp} {Q : VK} (h : tD X.K cl E (ch3 f g ma mb mc) σ H Q) : tChain r r' (tL X.K cl E ma) (tL X.K cl E mb) (tL X.K cl E mc) σ H Q := by
  obtain ⟨W, ω, μ, S, env, rl, q⟩ := h
  refine ⟨W, ω, μ, S, env, rl, q.bind.mono fun x S1 μ1 H1 _ s1 e1 q1 v rv => ?_⟩
  refine ⟨W, ω, μ1, S1, env, rl.ext e1 s1, q1.bind.mono fun y S2 μ2 H2 _ s2 e2 q2 u ru => ?_⟩
  cases hz : f S2 x y with
  | none => rw [hz] at q2; exact q2.elim
  | some z =>
    rw [hz] at q2
    refine hf W ω μ2 S2 H2 x y z v u _ s2 (RepL.mono s1 e2 rv) ru hz fun H3 v3 s3 e3 r3 => ?_
    cases z with
    | bl k =>
      cases r3
      refine ⟨k, rfl, ?_⟩
      cases k with
      | false => exact q2 μ2 H3 s3 e3 _ (.bl false)
      | true =>
        have q3 : SatG X.K cl (Wo W ω) μ2 H2 ((mc env S2).bind fun z S3 => (match g S3 y z with | some v => .ok v S3 | none => .bad)) _ E := q2
        refine ⟨W, ω, μ2, S2, env, ((rl.ext e1 s1).ext e2 s2).ext e3 s3, ?_⟩
        have q4 := q3.bind
        revert q4
        generalize mc env S2 = t
        intro q4
        cases t with
        | bad => exact q4
        | exc c ns xs S3 => exact fun μ' H' d s' e' xf => q4 μ' H' d s' (e3.trans e') xf
        | ok z S3 =>
          intro μ4 H4 s4 e4 v4 r4
          have q5 := q4 μ4 H4 s4 (e3.trans e4)
          dsimp only at q5
          cases hw : g S3 y z with
          | none => rw [hw] at q5; exact q5.elim
          | some w =>
            rw [hw] at q5
            exact hg W ω μ4 S3 H4 y z w u v4 Q s4 (RepL.mono s3 e4 (RepL.mono s2 e3 ru)) r4 hw fun H' v' s' e' r' => q5 μ4 H' s' e' v' r'
    | _ => exact q2.elim
theorem de_ch {op op' : CmpOp} {r r' : R2} {f g : F2} (ho : OpR X (compareOp op) r) (ho' : OpR X (compareOp op') r') (hf : Op2 X cl r f) (hg : Op2 X cl r' g) (ha : PE X a (tL X.K cl E ma)) (hb : PE X b (tL X.K cl E mb)) (hc : PE X c (tL X.K cl E mc))
    (hm : lastMarks [op, op'] [b, c] = false := by with_unfolding_all rfl) : PE X (.Compare a [op, op'] [b, c] pos) (tD X.K cl E (ch3 f g ma mb mc)) := (pe_chain ho ho' ha hb hc hm).imp fun _ _ _ h => ch3_t hf hg h
theorem dt_ch {op op' : CmpOp} {r r' : R2} {f g : F2} (ho : OpR X (compareOp op) r) (ho' : OpR X (compareOp op') r') (hf : Op2 X cl r f) (hg : Op2 X cl r' g) (ha : PE X a (tL X.K cl E ma)) (hb : PE X b (tL X.K cl E mb)) (hc : PE X c (tL X.K cl E mc))
    (hm : lastMarks [op, op'] [b, c] = false := by with_unfolding_all rfl) : PT X (.Compare a [op, op'] [b, c] pos) (tDT X.K cl E (tv (ch3 f g ma mb mc))) := (pt_chain ho ho' ha hb hc hm).imp fun _ _ _ h => ch3_t hf hg (tv_t h)

/-! ### argument lists -/
variable {es : List Expr} {mA : AM}
def nilA : AM := fun _ S => .ok [] S
def consA (m : EM) (r : AM) : AM := fun env S => (m env S).bind fun x S1 => (r env S1).bind fun xs S2 => .ok (x :: xs) S2
theorem da_nil : PA X [] (tDA X.K cl E nilA) := pa_nil.imp fun σ H Q ⟨W, ω, μ, S, env, rl, q⟩ => q μ H rl.sim Ext.refl [] .nil
theorem da_cons (ha : PE X e (tD X.K cl E m)) (hr : PA X es (tDA X.K cl E mA)) (hs : starEach (e :: es) X.env = (false, eval e X.env) :: starEach es X.env := by rfl) : PA X (e :: es) (tDA X.K cl E (consA m mA)) :=
  (pa_cons ha hr hs).imp fun σ H Q h => by
    obtain ⟨W, ω, μ, S, env, rl, q⟩ := h
    refine ⟨W, ω, μ, S, env, rl, q.bind.mono fun x S1 μ1 H1 _ s1 e1 q1 v rv => ?_⟩
    refine ⟨W, ω, μ1, S1, env, rl.ext e1 s1, q1.bind.mono fun xs S2 μ2 H2 _ s2 e2 q2 vs rs => ?_⟩
    exact q2 μ2 H2 s2 Ext.refl (v :: vs) (.cons (rv.mono e2.kp) rs)
/-- loose ones -/
def RepsL (K : PySem.W.Frag) (cl : Cl) (W : Addr → Prop) (ω : List (Option Addr)) (μ : List Addr) (H : Hp) : List Vl → List V → Prop := Paired (RepL K cl W ω μ H)
def tLA (K : PySem.W.Frag) (cl : Cl) (E : XK) (m : AM) : TA := fun σ H Q => ∃ W ω μ S env, Rl K cl W ω μ S env σ H ∧
  SatG K cl (Wo W ω) μ H (m env S) (fun xs _ μ' H' => ∀ vs, RepsL K cl W ω μ' H' xs vs → Q vs H') E
theorem la_nil : PA X [] (tLA X.K cl E nilA) := pa_nil.imp fun σ H Q ⟨W, ω, μ, S, env, rl, q⟩ => q μ H rl.sim Ext.refl [] .nil
theorem la_cons (ha : PE X e (tL X.K cl E m)) (hr : PA X es (tLA X.K cl E mA)) (hs : starEach (e :: es) X.env = (false, eval e X.env) :: starEach es X.env := by rfl) : PA X (e :: es) (tLA X.K cl E (consA m mA)) :=
  (pa_cons ha hr hs).imp fun σ H Q h => by
    obtain ⟨W, ω, μ, S, env, rl, q⟩ := h
    refine ⟨W, ω, μ, S, env, rl, q.bind.mono fun x S1 μ1 H1 _ s1 e1 q1 v rv => ?_⟩
    refine ⟨W, ω, μ1, S1, env, rl.ext e1 s1, q1.bind.mono fun xs S2 μ2 H2 _ s2 e2 q2 vs rs => ?_⟩
    exact q2 μ2 H2 s2 Ext.refl (v :: vs) (.cons (RepL.mono s1 e2 rv) rs)
/-- how many -/
def LenA (m : AM) (n : Nat) : Prop := ∀ env S xs S', m env S = .ok xs S' → xs.length = n
theorem lenA_nil : LenA nilA 0 := fun env S xs S' h => by cases h; rfl
theorem lenA_cons {n : Nat} (h : LenA mA n) : LenA (consA m mA) (n + 1) := fun env S xs S' q => by
  unfold consA at q
  cases e1 : m env S with
  | bad => rw [e1] at q; cases q
  | exc c ns ys S1 => rw [e1] at q; cases q
  | ok x S1 =>
    rw [e1] at q
    dsimp only [Res.bind] at q
    cases e2 : mA env S1 with
    | bad => rw [e2] at q; cases q
    | exc c ns ys S2 => rw [e2] at q; cases q
    | ok ys S2 =>
      rw [e2] at q
      cases q
      exact congrArg (· + 1) (h _ _ _ _ e2)

/-! ### displays -/
def tupM (a : AM) : EM := fun env S => (a env S).bind fun xs S1 => .ok (.tup xs) S1
def lstM (a : AM) : EM := fun env S => (a env S).bind fun xs S1 => .ok (.lst xs) S1
theorem de_tup {n j : Nat} (h : PA X es (tDA X.K cl E mA)) (hn : LenA mA n) (hl : n ≤ 1000 := by decide) : PE X (.Tuple es j pos) (tD X.K cl E (tupM mA)) :=
  (pe_tup h).imp fun σ H Q h => by
    obtain ⟨W, ω, μ, S, env, rl, q⟩ := h
    refine ⟨W, ω, μ, S, env, rl, q.bind.mono fun xs S1 μ1 H1 ee s1 e1 q1 vs rs => ⟨?_, fun p hp => ?_⟩⟩
    · rw [← rs.length, hn _ _ _ _ ee, sizeLine_eq]; omega
    · exact q1 μ1 _ (s1.fresh hp) (Ext.fresh hp) _ (.tup upd_same (fun z => s1.free hp z) (rs.mono (Ext.fresh hp).kp))
theorem dn_lst {n : Nat} (h : PA X es (tDA X.K cl E mA)) (hn : LenA mA n) (hl : n ≤ 1000 := by decide) : PE X (.List es pos) (tN X.K cl E (lstM mA)) :=
  (pe_lst h).imp fun σ H Q h => by
    obtain ⟨W, ω, μ, S, env, rl, q⟩ := h
    refine ⟨W, ω, μ, S, env, rl, q.bind.mono fun xs S1 μ1 H1 ee s1 e1 q1 vs rs => ⟨?_, fun p hp => ?_⟩⟩
    · rw [← rs.length, hn _ _ _ _ ee, sizeLine_eq]; omega
    · exact q1 μ1 _ (s1.fresh hp) (Ext.fresh hp) p (fresh_back e1 hp) (s1.freshBan hp fun z => s1.tracked (.inl z) hp) (.lst upd_same (rs.mono (Ext.kpBan hp)))

/-! ### calls of built-ins -/
abbrev FA := Sto → List Vl → Option Vl
def cB (f : FA) (a : AM) : EM := fun env S => (a env S).bind fun xs S1 => match f S1 xs with
  | some v => .ok v S1
  | none => .bad
def OpA (X : Cx) (cl : Cl) (r : List V → Hp → VK → Prop) (f : FA) : Prop := ∀ (W : Addr → Prop) (ω : List (Option Addr)) (μ : List Addr) (S : Sto) (H : Hp) (xs : List Vl) (z : Vl) (vs : List V) (Q : VK), Sim X.K cl (Wo W ω) μ S H → RepsL X.K cl W ω μ H xs vs →
  f S xs = some z → (∀ H' v', Sim X.K cl (Wo W ω) μ S H' → Ext μ H μ H' → Rep X.K cl (Bn (Wo W ω) μ) μ H' z v' → Q v' H') → r vs H Q
def OpAN (X : Cx) (cl : Cl) (r : List V → Hp → VK → Prop) (f : FA) : Prop := ∀ (W : Addr → Prop) (ω : List (Option Addr)) (μ : List Addr) (S : Sto) (H : Hp) (xs : List Vl) (z : Vl) (vs : List V) (Q : VK), Sim X.K cl (Wo W ω) μ S H → RepsL X.K cl W ω μ H xs vs →
  f S xs = some z → (∀ a o, H a = none → Ho X.K cl (Bn (Wo W ω) μ) μ H z o → Q (.ref a) (upd H a o)) → r vs H Q
theorem cB_t {r : List V → Hp → VK → Prop} {f : FA} (hf : OpA X cl r f) {σ : St} {H : Hp} {Q : VK} (h : tD X.K cl E (cB f mA) σ H Q) : tCB r (tLA X.K cl E mA) σ H Q := by
  obtain ⟨W, ω, μ, S, env, rl, q⟩ := h
  refine ⟨W, ω, μ, S, env, rl, q.bind.mono fun x S1 μ1 H1 _ s1 e1 q1 v rv => ?_⟩
  cases hz : f S1 x with
  | none => rw [hz] at q1; exact q1.elim
  | some z =>
    rw [hz] at q1
    exact hf W ω μ1 S1 H1 x z v Q s1 rv hz fun H' v' s' e' r' => q1 μ1 H' s' e' v' r'
theorem cB_n {r : List V → Hp → VK → Prop} {f : FA} (hf : OpAN X cl r f) {σ : St} {H : Hp} {Q : VK} (h : tN X.K cl E (cB f mA) σ H Q) : tCB r (tLA X.K cl E mA) σ H Q := by
  obtain ⟨W, ω, μ, S, env, rl, q⟩ := h
  refine ⟨W, ω, μ, S, env, rl, q.bind.mono fun x S1 μ1 H1 _ s1 e1 q1 v rv => ?_⟩
  cases hz : f S1 x with
  | none => rw [hz] at q1; exact q1.elim
  | some z =>
    rw [hz] at q1
    exact hf W ω μ1 S1 H1 x z v Q s1 rv hz fun a o ha r' => q1 μ1 _ (s1.fresh ha) (Ext.fresh ha) a (fresh_back e1 ha) (s1.freshBan ha fun z => s1.tracked (.inl z) ha) ((r'.mono (Ext.kpBan ha)).at upd_same)
variable {x : Str} {p : Pos} {id T : String} {r : List V → Hp → VK → Prop} {f : FA}
theorem de_callB (hc : CallR X (.builtin id) r) (hf : OpA X cl r f) (hg : Gl X x) (hm : X.mg x = none) (hv : bootBuiltins x = some (.builtin id)) (ha : PA X (e :: es) (tLA X.K cl E mA)) (hn : x ≠ "__name__" := by decide) (hdb : (x == ("__debug__" : Str)) = false := by decide)
    (he : starEach (e :: es) X.env = (false, eval e X.env) :: starEach es X.env := by rfl) (hpl : (backTo pos (starEach es X.env)).any (·.1) = false := by rfl) : PE X (.Call (.Name x p) (e :: es) [] pos) (tD X.K cl E (cB f mA)) :=
  (pe_callB hc hg hm hv ha hn hdb he hpl).imp fun _ _ _ h => cB_t hf h
theorem de_callTy (hc : CallR X (.type T) r) (hf : OpA X cl r f) (hg : Gl X x) (hm : X.mg x = none) (hv : bootBuiltins x = some (.type T)) (ha : PA X (e :: es) (tLA X.K cl E mA)) (hn : x ≠ "__name__" := by decide) (hdb : (x == ("__debug__" : Str)) = false := by decide)
    (he : starEach (e :: es) X.env = (false, eval e X.env) :: starEach es X.env := by rfl) (hpl : (backTo pos (starEach es X.env)).any (·.1) = false := by rfl) : PE X (.Call (.Name x p) (e :: es) [] pos) (tD X.K cl E (cB f mA)) :=
  (pe_callTy hc hg hm hv ha hn hdb he hpl).imp fun _ _ _ h => cB_t hf h
theorem dn_callB (hc : CallR X (.builtin id) r) (hf : OpAN X cl r f) (hg : Gl X x) (hm : X.mg x = none) (hv : bootBuiltins x = some (.builtin id)) (ha : PA X (e :: es) (tLA X.K cl E mA)) (hn : x ≠ "__name__" := by decide) (hdb : (x == ("__debug__" : Str)) = false := by decide)
    (he : starEach (e :: es) X.env = (false, eval e X.env) :: starEach es X.env := by rfl) (hpl : (backTo pos (starEach es X.env)).any (·.1) = false := by rfl) : PE X (.Call (.Name x p) (e :: es) [] pos) (tN X.K cl E (cB f mA)) :=
  (pe_callB hc hg hm hv ha hn hdb he hpl).imp fun _ _ _ h => cB_n hf h
theorem dn_callTy (hc : CallR X (.type T) r) (hf : OpAN X cl r f) (hg : Gl X x) (hm : X.mg x = none) (hv : bootBuiltins x = some (.type T)) (ha : PA X (e :: es) (tLA X.K cl E mA)) (hn : x ≠ "__name__" := by decide) (hdb : (x == ("__debug__" : Str)) = false := by decide)
    (he : starEach (e :: es) X.env = (false, eval e X.env) :: starEach es X.env := by rfl) (hpl : (backTo pos (starEach es X.env)).any (·.1) = false := by rfl) : PE X (.Call (.Name x p) (e :: es) [] pos) (tN X.K cl E (cB f mA)) :=
  (pe_callTy hc hg hm hv ha hn hdb he hpl).imp fun _ _ _ h => cB_n hf h
end
end Dm

set_option Elab.async false
set_option linter.all false
set_option maxRecDepth 100000
set_option autoImplicit false
set_option maxHeartbeats 1000000
/-! Dm4: statements, bodies, defs. -/
namespace Dm
open PySem PySem.Spec L2
inductive Fl where
  | nx (env : List Sv) | rt (x : Vl) | bk (env : List Sv) | ct (env : List Sv)
abbrev SM := List Sv → Sto → Res Fl
structure ExtS (ω : List (Option Addr)) (μ : List Addr) (H : Hp) (ω' : List (Option Addr)) (μ' : List Addr) (H' : Hp) : Prop where
  keep : ∀ b o, H b = some o → b ∉ μ → some b ∉ ω → H' b = some o
  dom : ∀ b, H b ≠ none → H' b ≠ none
  pre : ∀ (n : Nat) (a : Addr), μ[n]? = some a → μ'[n]? = some a
  new : ∀ a, a ∈ μ' ∨ some a ∈ ω' → a ∈ μ ∨ some a ∈ ω ∨ H a = none
theorem ExtS.refl {ω : List (Option Addr)} {μ : List Addr} {H : Hp} : ExtS ω μ H ω μ H := ⟨fun _ _ e _ _ => e, fun _ e => e, fun _ _ e => e, fun _ e => e.elim .inl fun e => .inr (.inl e)⟩
theorem ExtS.trans {ω ω1 ω2 : List (Option Addr)} {μ μ1 μ2 : List Addr} {H H1 H2 : Hp} (p : ExtS ω μ H ω1 μ1 H1) (q : ExtS ω1 μ1 H1 ω2 μ2 H2) : ExtS ω μ H ω2 μ2 H2 where
  keep := fun b o e n n' => q.keep b o (p.keep b o e n n') (fun z => by
    rcases p.new b (.inl z) with z | z | z
    · exact n z
    · exact n' z
    · rw [e] at z; cases z) fun z => by
    rcases p.new b (.inr z) with z | z | z
    · exact n z
    · exact n' z
    · rw [e] at z; cases z
  dom := fun b e => q.dom b (p.dom b e)
  pre := fun n a e => q.pre n a (p.pre n a e)
  new := fun a z => by
    rcases q.new a z with z | z | z
    · exact p.new a (.inl z)
    · exact p.new a (.inr z)
    · refine .inr (.inr ?_)
      cases e : H a with
      | none => rfl
      | some o => exact absurd z (p.dom a (by rw [e]; simp))
theorem Ext.s {ω : List (Option Addr)} {μ μ' : List Addr} {H H' : Hp} (e : Ext μ H μ' H') : ExtS ω μ H ω μ' H' :=
  ⟨fun b o q n _ => e.keep b o q n, e.dom, e.pre, fun a z => z.elim (fun z => (e.new a z).elim .inl fun z => .inr (.inr z)) fun z => .inr (.inl z)⟩
/-- own names let go -/
theorem ExtS.drop {ω ω' ω'' : List (Option Addr)} {μ μ' : List Addr} {H H' : Hp} (e : ExtS ω μ H ω' μ' H') (h : ∀ a, some a ∈ ω'' → some a ∈ ω') : ExtS ω μ H ω'' μ' H' :=
  ⟨e.keep, e.dom, e.pre, fun a z => e.new a (z.elim .inl fun z => .inr (h a z))⟩

def SatF (K : PySem.W.Frag) (cl : Cl) (W : Addr → Prop) (ω : List (Option Addr)) (μ : List Addr) (H : Hp) (r : Res Fl) (D : Ends) (E : XK) : Prop := match r with
  | .ok (.nx env) S' => ∀ ω' μ' σ' H', Rl K cl W ω' μ' S' env σ' H' → ExtS ω μ H ω' μ' H' → D.nx σ' H'
  | .ok (.bk env) S' => ∀ ω' μ' σ' H', Rl K cl W ω' μ' S' env σ' H' → ExtS ω μ H ω' μ' H' → D.bk σ' H'
  | .ok (.ct env) S' => ∀ ω' μ' σ' H', Rl K cl W ω' μ' S' env σ' H' → ExtS ω μ H ω' μ' H' → D.ct σ' H'
  | .ok (.rt x) S' => ∀ μ' H' v, Sim K cl W μ' S' H' → ExtS ω μ H [] μ' H' → Rep K cl (Bn W μ') μ' H' x v → D.rt v H'
  | .exc c ns xs S' => ∀ μ' H' d, Sim K cl W μ' S' H' → ExtS ω μ H [] μ' H' → XFs K cl (Bn W μ') μ' H' d ns xs → E (.ref (cl c)) (some d) H'
  | .bad => False
def tS (K : PySem.W.Frag) (cl : Cl) (E : XK) (b : SM) : TS := fun D σ H => ∃ W ω μ S env, Rl K cl W ω μ S env σ H ∧ SatF K cl W ω μ H (b env S) D E
section
variable {K : PySem.W.Frag} {cl : Cl} {W : Addr → Prop} {ω ω' : List (Option Addr)} {μ μ' : List Addr} {H H' : Hp} {D : Ends} {E : XK} {S S' : Sto} {env : List Sv} {σ : St}
theorem SatF.step {r : Res Fl} (h : SatF K cl W ω μ H r D E) (e : ExtS ω μ H ω' μ' H') : SatF K cl W ω' μ' H' r D E := by
  cases r with
  | bad => exact h
  | exc c ns xs S' => exact fun μ' H' d s e' x => h μ' H' d s (e.trans e') x
  | ok f S' =>
    cases f with
    | nx env => exact fun ω2 μ2 σ2 H2 r e' => h ω2 μ2 σ2 H2 r (e.trans e')
    | bk env => exact fun ω2 μ2 σ2 H2 r e' => h ω2 μ2 σ2 H2 r (e.trans e')
    | ct env => exact fun ω2 μ2 σ2 H2 r e' => h ω2 μ2 σ2 H2 r (e.trans e')
    | rt x => exact fun μ2 H2 v s e' r => h μ2 H2 v s (e.trans e') r
theorem wo_left {W : Addr → Prop} {ω : List (Option Addr)} (a : Addr) (h : W a) : Wo W ω a := .inl h
/-- an exception out of an expression leaves the statement -/
theorem SatF.ofG {α : Type} {r : Res α} {k : α → Sto → Res Fl} (h : SatF K cl W ω μ H (r.bind k) D E) : SatG K cl (Wo W ω) μ H r (fun a S1 μ1 H1 => SatF K cl W ω μ1 H1 (k a S1) D E) E := by
  cases r with
  | bad => exact h
  | exc c ns xs S1 =>
    intro μ' H' d s e x
    obtain ⟨fs, e1, e2, e3⟩ := x
    exact h μ' H' d (s.weak wo_left) (e.s.drop fun _ z => nomatch z) ⟨fs, e1, e2, e3.mono (Kp.weak wo_left)⟩
  | ok a S1 => exact fun μ' H' s e => SatF.step (r := k a S1) h e.s
theorem Rl.len (r : Rl K cl W ω μ S env σ H) : σ.length = env.length := r.l1.symm
/-- a name gets a value -/
theorem Rl.set (r : Rl K cl W ω μ S env σ H) {x : Vl} {v : V} (h : Rep K cl (Bn (Wo W ω) μ) μ H x v) (i : Nat) : Rl K cl W (ω.set i none) μ S (env.set i (.v x)) (σ.set i (some v)) H := by
  have sub : ∀ a, Wo W (ω.set i none) a → Wo W ω a := fun a z => z.elim .inl fun z => .inr ((List.mem_or_eq_of_mem_set z).elim id fun z => nomatch z)
  refine ⟨r.sim.weak sub, by simp [r.l1], by simp [r.l2], fun j e o s h1 h2 h3 => ?_, fun j k a h1 h2 => ?_, fun a z => r.ow a ((List.mem_or_eq_of_mem_set z).elim id fun z => nomatch z)⟩
  · by_cases hj : j = i
    · subst hj
      rw [List.getElem?_set_self (by have := (List.getElem?_eq_some_iff.mp h1).1; simpa using this)] at h1
      rw [List.getElem?_set_self (by have := (List.getElem?_eq_some_iff.mp h2).1; simpa using this)] at h2
      rw [List.getElem?_set_self (by have := (List.getElem?_eq_some_iff.mp h3).1; simpa using this)] at h3
      cases h1; cases h2; cases h3
      exact ⟨rfl, v, rfl, h.mono (Kp.weak sub)⟩
    · rw [List.getElem?_set_ne (Ne.symm hj)] at h1 h2 h3
      exact (r.at_ j e o s h1 h2 h3).mono (Kp.weak sub) fun _ _ _ q => q
  · have f : ∀ l : Nat, (ω.set i none)[l]? = some (some a) → ω[l]? = some (some a) := fun l q => by
      by_cases hl : l = i
      · subst hl
        rw [List.getElem?_set_self (by have := (List.getElem?_eq_some_iff.mp q).1; simpa using this)] at q
        cases q
      · rw [List.getElem?_set_ne (Ne.symm hl)] at q; exact q
    exact r.od j k a (f j h1) (f k h2)
theorem mem_set_none {ω : List (Option Addr)} {i : Nat} {a : Addr} (z : some a ∈ ω.set i none) : some a ∈ ω := (List.mem_or_eq_of_mem_set z).elim id fun z => nomatch z
/-- a name gets a new object of its own: made since H -/
theorem Rl.setOwn (r : Rl K cl W ω μ S env σ H) (e : Ext μ H μ' H') {a : Addr} {x : Vl} (ha : H a = none) (s : Sim K cl (Wa (Wo W ω) a) μ' S' H') (h : At K cl (Bn (Wa (Wo W ω) a) μ') μ' H' a x) (i : Nat) (hi : i < ω.length) :
    Rl K cl W (ω.set i (some a)) μ' S' (env.set i (.ow x)) (σ.set i (some (.ref a))) H' := by
  have sub : ∀ b, Wo W (ω.set i (some a)) b → Wa (Wo W ω) a b := fun b z => z.elim (fun z => .inl (.inl z)) fun z => (List.mem_or_eq_of_mem_set z).elim (fun z => .inl (.inr z)) fun z => .inr (Option.some.inj z)
  have na : ∀ j : Nat, ω[j]? ≠ some (some a) := fun j q => r.sim.trk a (.inr (List.mem_of_getElem? q)) ha
  have kp : Kp (Bn (Wo W ω) μ) (Bn (Wo W (ω.set i (some a))) μ') μ μ' H H' := ⟨fun b o q n => ⟨e.keep b o q fun z => n (.inl z), fun z => by
      rcases z with z | z
      · rcases e.new b z with z | z
        · exact n (.inl z)
        · rw [q] at z; cases z
      · rcases sub b z with z | z
        · exact n (.inr z)
        · rw [z, ha] at q; cases q⟩, e.pre⟩
  refine ⟨s.weak sub, by simp [r.l1], by simp [r.l2], fun j ee o s' h1 h2 h3 => ?_, fun j k b h1 h2 => ?_, fun b z => ?_⟩
  · by_cases hj : j = i
    · subst hj
      rw [List.getElem?_set_self (by have := (List.getElem?_eq_some_iff.mp h1).1; simpa using this)] at h1
      rw [List.getElem?_set_self (by have := (List.getElem?_eq_some_iff.mp h2).1; simpa using this)] at h2
      rw [List.getElem?_set_self (by have := (List.getElem?_eq_some_iff.mp h3).1; simpa using this)] at h3
      cases h1; cases h2; cases h3
      exact ⟨a, rfl, rfl, h.mono (Kp.weak sub) fun _ q => q⟩
    · rw [List.getElem?_set_ne (Ne.symm hj)] at h1 h2 h3
      exact (r.at_ j ee o s' h1 h2 h3).mono kp fun b u z q => e.keep b u q fun hm => r.sim.dis b hm (.inr (by rw [← z]; exact List.mem_of_getElem? h2))
  · by_cases hj : j = i
    · by_cases hk : k = i
      · rw [hj, hk]
      · rw [List.getElem?_set_ne (Ne.symm hk)] at h2
        subst hj
        rw [List.getElem?_set_self hi] at h1
        cases h1
        exact absurd h2 (na k)
    · rw [List.getElem?_set_ne (Ne.symm hj)] at h1
      by_cases hk : k = i
      · subst hk
        rw [List.getElem?_set_self hi] at h2
        cases h2
        exact absurd h1 (na j)
      · rw [List.getElem?_set_ne (Ne.symm hk)] at h2
        exact r.od j k b h1 h2
  · rcases List.mem_or_eq_of_mem_set z with z | z
    · exact r.ow b z
    · cases z
      exact fun w => r.sim.trk _ (.inl w) ha
/-- a name gets a new shared object -/
theorem Rl.setNew (r : Rl K cl W ω μ S env σ H) (e : Ext μ H μ' H') {a : Addr} {x : Vl} (ha : H a = none) (s : Sim K cl (Wa (Wo W ω) a) μ' S' H') (h : At K cl (Bn (Wa (Wo W ω) a) μ') μ' H' a x) (i : Nat) :
    Rl K cl W (ω.set i none) (μ' ++ [a]) (S' ++ [x]) (env.set i (.v (.ref S'.length))) (σ.set i (some (.ref a))) H' := by
  have na : a ∉ μ' := fun z => s.dis a z (.inr rfl)
  have kp : Kp (Bn (Wa (Wo W ω) a) μ') (Bn (Wo W ω) (μ' ++ [a])) μ' (μ' ++ [a]) H' H' := ⟨fun b o q n => ⟨q, fun z => by
      rcases z with z | z
      · rcases List.mem_append.mp z with z | z
        · exact n (.inl z)
        · exact n (.inr (.inr (by simpa using z)))
      · exact n (.inr (.inl z))⟩, fun n b q => by rw [List.getElem?_append_left (List.getElem?_eq_some_iff.mp q).1]; exact q⟩
  have e2 : Ext μ H (μ' ++ [a]) H' := ⟨e.keep, e.dom, fun n b q => kp.num n b (e.pre n b q), fun b z => (List.mem_append.mp z).elim (e.new b) fun z => .inr (by
    have : b = a := by simpa using z
    rw [this]; exact ha)⟩
  have s2 : Sim K cl (Wo W ω) (μ' ++ [a]) (S' ++ [x]) H' := by
    refine ⟨by simp [s.len], ?_, fun b z w => ?_, fun b w => s.trn b (.inl w), fun n y q => ?_⟩
    · rw [List.nodup_append]
      exact ⟨s.nd, by simp, fun b hb c hc => by
        have : c = a := by simpa using hc
        subst this
        exact fun z => na (z ▸ hb)⟩
    · rcases List.mem_append.mp z with z | z
      · exact s.dis b z (.inl w)
      · have : b = a := by simpa using z
        subst this
        exact r.sim.trk b w ha
    · by_cases hn : n < S'.length
      · rw [List.getElem?_append_left hn] at q
        obtain ⟨b, e1, e2⟩ := s.obs n y q
        exact ⟨b, kp.num n b e1, e2.mono kp fun _ q => q⟩
      · have hn2 : n = S'.length := by
          have := (List.getElem?_eq_some_iff.mp q).1
          rw [List.length_append, List.length_singleton] at this
          omega
        subst hn2
        rw [List.getElem?_append_right (Nat.le_refl _), Nat.sub_self] at q
        cases q
        refine ⟨a, ?_, h.mono kp fun _ q => q⟩
        rw [← s.len, List.getElem?_append_right (Nat.le_refl _), Nat.sub_self] <;> rfl
  refine (r.ext e2 s2).set (x := .ref S'.length) (v := .ref a) (.ref ?_) i
  rw [← s.len, List.getElem?_append_right (Nat.le_refl _), Nat.sub_self] <;> rfl
/-- an own object changed -/
theorem Rl.updG (r : Rl K cl W ω μ S env σ H) {i : Nat} {a : Addr} {y : Vl} {o : HO} {e' : Sv} (hs : σ[i]? = some (some (.ref a))) (ha : ω[i]? = some (some a)) (he' : e' = .ow y ∨ e' = .sf a y) (ho : Ho K cl (Bn (Wo W ω) μ) μ H y o) :
    Rl K cl W ω μ S (env.set i e') σ (upd H a o) ∧ ExtS ω μ H ω μ (upd H a o) := by
  have ham : some a ∈ ω := List.mem_of_getElem? ha
  have kp : Kp (Bn (Wo W ω) μ) (Bn (Wo W ω) μ) μ μ H (L2.upd H a o) := ⟨fun b u q n => ⟨by rw [upd_ne (show b ≠ a from fun z => n (.inr (.inr (by rw [z]; exact ham))))]; exact q, n⟩, fun _ _ q => q⟩
  refine ⟨⟨⟨r.sim.len, r.sim.nd, r.sim.dis, fun b w => ?_, fun n z q => ?_⟩, by simp [r.l1], r.l2, fun j e u s h1 h2 h3 => ?_, r.od, r.ow⟩, ⟨fun b u q _ n => by rw [upd_ne (show b ≠ a from fun z => n (by rw [z]; exact ham))]; exact q, fun b q => ?_, fun _ _ q => q, fun b z => z.elim .inl fun z => .inr (.inl z)⟩⟩
  · exact (r.sim.trn b w).upd ho.nt
  · obtain ⟨b, e1, e2⟩ := r.sim.obs n z q
    exact ⟨b, e1, e2.mono kp fun u q => by rw [upd_ne (show b ≠ a from fun z => r.sim.dis b (List.mem_of_getElem? e1) (.inr (by rw [z]; exact ham)))]; exact q⟩
  · by_cases hj : j = i
    · subst hj
      rw [List.getElem?_set_self (by have := (List.getElem?_eq_some_iff.mp h1).1; simpa using this)] at h1
      rw [ha] at h2
      cases h1; cases h2
      rw [hs] at h3; cases h3
      rcases he' with z | z
      · rw [z]; exact ⟨a, rfl, rfl, (ho.mono kp).at upd_same⟩
      · rw [z]; exact ⟨rfl, rfl, (ho.mono kp).at upd_same⟩
    · rw [List.getElem?_set_ne (Ne.symm hj)] at h1
      refine (r.at_ j e u s h1 h2 h3).mono kp fun b w z q => ?_
      rw [upd_ne]
      · exact q
      · intro zz
        subst zz
        rw [z] at h2
        exact hj (r.od j i b h2 ha)
  · unfold L2.upd
    split
    · simp
    · exact q
theorem Rl.upd (r : Rl K cl W ω μ S env σ H) {i : Nat} {a : Addr} {x y : Vl} {o : HO} (hi : env[i]? = some (.ow x)) (ha : ω[i]? = some (some a)) (ho : Ho K cl (Bn (Wo W ω) μ) μ H y o) :
    Rl K cl W ω μ S (env.set i (.ow y)) σ (L2.upd H a o) ∧ ExtS ω μ H ω μ (L2.upd H a o) := by
  obtain ⟨o', s', q1, q2, b, q3, q4, q5⟩ := r.slot hi
  rw [ha] at q1; cases q1
  cases q3
  exact r.updG (by rw [q2, q4]) ha (.inl rfl) ho
theorem Rl.updS (r : Rl K cl W ω μ S env σ H) {i : Nat} {a : Addr} {x y : Vl} {o : HO} (hi : env[i]? = some (.sf a x)) (ho : Ho K cl (Bn (Wo W ω) μ) μ H y o) :
    Rl K cl W ω μ S (env.set i (.sf a y)) σ (L2.upd H a o) ∧ ExtS ω μ H ω μ (L2.upd H a o) := by
  obtain ⟨o', s', q1, q2, q3, q4, q5⟩ := r.slot hi
  subst q3
  exact r.updG (by rw [q2, q4]) q1 (.inr rfl) ho
theorem nd_ix : ∀ {l : List Addr} {i j : Nat} {x : Addr}, l.Nodup → l[i]? = some x → l[j]? = some x → i = j
  | [], _, _, _, _, h, _ => by simp at h
  | y :: l, 0, 0, _, _, _, _ => rfl
  | y :: l, 0, j + 1, x, n, h, h' => by
    simp at h h'
    subst h
    exact absurd (List.mem_of_getElem? h') (List.nodup_cons.mp n).1
  | y :: l, i + 1, 0, x, n, h, h' => by
    simp at h h'
    subst h'
    exact absurd (List.mem_of_getElem? h) (List.nodup_cons.mp n).1
  | y :: l, i + 1, j + 1, x, n, h, h' => congrArg (· + 1) (nd_ix (List.nodup_cons.mp n).2 (by simpa using h) (by simpa using h'))
/-- a shared object changed -/
theorem Sim.upd {W' : Addr → Prop} (s : Sim K cl W' μ S H) {n : Nat} {a : Addr} {y : Vl} {o : HO} (hn : μ[n]? = some a) (ho : Ho K cl (Bn W' μ) μ H y o) : Sim K cl W' μ (S.set n y) (upd H a o) ∧ Ext μ H μ (upd H a o) := by
  have ham : a ∈ μ := List.mem_of_getElem? hn
  have kp : Kp (Bn W' μ) (Bn W' μ) μ μ H (L2.upd H a o) := ⟨fun b u q n => ⟨by rw [upd_ne (show b ≠ a from fun z => n (.inl (by rw [z]; exact ham)))]; exact q, n⟩, fun _ _ q => q⟩
  refine ⟨⟨by simp [s.len], s.nd, s.dis, fun b w => ?_, fun j z q => ?_⟩, ⟨fun b u q n => by rw [upd_ne (show b ≠ a from fun z => n (by rw [z]; exact ham))]; exact q, fun b q => ?_, fun _ _ q => q, fun _ q => .inl q⟩⟩
  · exact (s.trn b w).upd ho.nt
  · by_cases hj : j = n
    · subst hj
      rw [List.getElem?_set_self (by have := (List.getElem?_eq_some_iff.mp q).1; simpa using this)] at q
      cases q
      exact ⟨a, hn, (ho.mono kp).at upd_same⟩
    · rw [List.getElem?_set_ne (Ne.symm hj)] at q
      obtain ⟨b, e1, e2⟩ := s.obs j z q
      refine ⟨b, e1, e2.mono kp fun u q => ?_⟩
      rw [upd_ne]
      · exact q
      · intro zz
        subst zz
        exact hj (nd_ix s.nd e1 hn)
  · unfold L2.upd
    split
    · simp
    · exact q
end
end Dm

set_option Elab.async false
set_option linter.all false
set_option maxRecDepth 100000
set_option autoImplicit false
set_option maxHeartbeats 1000000
/-! Dm5: the statements' rules, a def's promise by its mirror, its calls. -/
namespace Dm
open PySem PySem.Spec L2
section
variable {X : Cx} {cl : Cl} {E : XK} {st : Stmt} {sts : List Stmt} {b b1 b2 : SM} {m m1 m2 : EM} {i j : Nat} {e : Expr} {pos : Pos}
def nilS : SM := fun env S => .ok (.nx env) S
def seqS (b1 b2 : SM) : SM := fun env S => (b1 env S).bind fun f S1 => match f with
  | .nx env1 => b2 env1 S1
  | f => .ok f S1
theorem ds_nil : PSs X [] (tS X.K cl E nilS) := pss_nil.imp fun D σ H ⟨W, ω, μ, S, env, rl, q⟩ => q ω μ σ H rl ExtS.refl
theorem ds_cons (h1 : PS X st (tS X.K cl E b1)) (h2 : PSs X sts (tS X.K cl E b2)) : PSs X (st :: sts) (tS X.K cl E (seqS b1 b2)) := (pss_cons h1 h2).imp fun D σ H ⟨W, ω, μ, S, env, rl, q⟩ => by
  refine ⟨W, ω, μ, S, env, rl, ?_⟩
  unfold seqS at q
  revert q
  generalize b1 env S = r
  intro q
  cases r with
  | bad => exact q
  | exc c ns xs S' => exact q
  | ok f S' =>
    cases f with
    | nx env1 => exact fun ω' μ' σ' H' r' e' => ⟨W, ω', μ', S', env1, r', SatF.step (r := b2 env1 S') q e'⟩
    | bk env1 => exact q
    | ct env1 => exact q
    | rt x => exact q
theorem ds_one (h : PS X st (tS X.K cl E b)) : PSs X [st] (tS X.K cl E b) := pss_one h
def ifS (c : TM) (a b : SM) : SM := fun env S => (c env S).bind fun k S1 => if k then a env S1 else b env S1
theorem ds_if {c : Expr} {p q : List Stmt} {tc : TM} (hc : PT X c (tDT X.K cl E tc)) (ha : PSs X p (tS X.K cl E b1)) (hb : PSs X q (tS X.K cl E b2)) : PS X (.If c p q pos) (tS X.K cl E (ifS tc b1 b2)) :=
  (ps_if hc ha hb).imp fun D σ H ⟨W, ω, μ, S, env, rl, q⟩ => by
    refine ⟨W, ω, μ, S, env, rl, q.ofG.mono fun k S1 μ1 H1 _ s1 e1 q1 => ?_⟩
    cases k with
    | true => exact ⟨W, ω, μ1, S1, env, rl.ext e1 s1, q1⟩
    | false => exact ⟨W, ω, μ1, S1, env, rl.ext e1 s1, q1⟩
theorem ds_never : PS X st (tS X.K cl E fun _ _ => .bad) := ps_never.imp fun D σ H ⟨W, ω, μ, S, env, rl, q⟩ => q
theorem dss_never : PSs X sts (tS X.K cl E fun _ _ => .bad) := pss_never.imp fun D σ H ⟨W, ω, μ, S, env, rl, q⟩ => q
theorem ds_pass : PS X (.Pass pos) (tS X.K cl E nilS) := ps_pass.imp fun D σ H ⟨W, ω, μ, S, env, rl, q⟩ => q ω μ σ H rl ExtS.refl
def brkS : SM := fun env S => .ok (.bk env) S
def ctS : SM := fun env S => .ok (.ct env) S
theorem ds_break : PS X (.Break pos) (tS X.K cl E brkS) := ps_break.imp fun D σ H ⟨W, ω, μ, S, env, rl, q⟩ => q ω μ σ H rl ExtS.refl
theorem ds_continue : PS X (.Continue pos) (tS X.K cl E ctS) := ps_continue.imp fun D σ H ⟨W, ω, μ, S, env, rl, q⟩ => q ω μ σ H rl ExtS.refl
/-- return -/
def retS (m : EM) : SM := fun env S => (m env S).bind fun x S1 => .ok (.rt x) S1
def retV (i : Nat) : SM := fun env S => match env[i]? with
  | some (.v x) => .ok (.rt x) S
  | some (.ow x) => .ok (.rt x) S
  | _ => .bad
def retN : SM := fun _ S => .ok (.rt .non) S
theorem ds_ret (h : PE X e (tD X.K cl E m)) : PS X (.Return (some e) pos) (tS X.K cl E (retS m)) := (ps_ret h).imp fun D σ H ⟨W, ω, μ, S, env, rl, q⟩ =>
  ⟨W, ω, μ, S, env, rl, q.ofG.mono fun x S1 μ1 H1 _ s1 e1 q1 v rv => q1 μ1 H1 v (s1.weak wo_left) (ExtS.refl.drop fun _ z => nomatch z) (rv.mono (Kp.weak wo_left))⟩
theorem ds_retV (h : PE X e (tVar i)) : PS X (.Return (some e) pos) (tS X.K cl E (retV i)) := (ps_ret h).imp fun D σ H ⟨W, ω, μ, S, env, rl, q⟩ => by
  unfold retV at q
  cases he : env[i]? with
  | none => rw [he] at q; exact q.elim
  | some z =>
    rw [he] at q
    cases z with
    | un => exact q.elim
    | sf a x => exact q.elim
    | ow x =>
      obtain ⟨o, s, h1, h2, a, h3, h4, h5⟩ := rl.slot he
      subst h4
      subst h3
      refine ⟨.ref a, h2, q μ H _ (rl.sim.weak wo_left) (ExtS.refl.drop fun _ z => nomatch z) ((h5.mono (Kp.weak wo_left) fun _ q => q).rep fun z => ?_)⟩
      rcases z with z | z
      · exact rl.sim.dis a z (.inr (List.mem_of_getElem? h1))
      · exact rl.ow a (List.mem_of_getElem? h1) z
    | v x =>
      obtain ⟨o, s, h1, h2, _, v, h4, h5⟩ := rl.slot he
      subst h4
      exact ⟨v, h2, q μ H v (rl.sim.weak wo_left) (ExtS.refl.drop fun _ z => nomatch z) (h5.mono (Kp.weak wo_left))⟩
theorem ds_retN : PS X (.Return none pos) (tS X.K cl E retN) := ps_retN.imp fun D σ H ⟨W, ω, μ, S, env, rl, q⟩ =>
  q μ H _ (rl.sim.weak wo_left) (ExtS.refl.drop fun _ z => nomatch z) .non
/-- an expression, its value dropped -/
def exprS (m : EM) : SM := fun env S => (m env S).bind fun _ S1 => .ok (.nx env) S1
theorem ds_expr {te : TE} (h : PS X st (tDrop te)) (hi : ∀ σ H Q, tD X.K cl E m σ H Q → te σ H Q) : PS X st (tS X.K cl E (exprS m)) := h.imp fun D σ H ⟨W, ω, μ, S, env, rl, q⟩ =>
  hi _ _ _ ⟨W, ω, μ, S, env, rl, q.ofG.mono fun x S1 μ1 H1 _ s1 e1 q1 v rv => q1 ω μ1 σ H1 (rl.ext e1 s1) ExtS.refl⟩
/-! ### names -/
def setS (i : Nat) (m : EM) : SM := fun env S => (m env S).bind fun x S1 => .ok (.nx (env.set i (.v x))) S1
def ownS (i : Nat) (m : EM) : SM := fun env S => (m env S).bind fun x S1 => .ok (.nx (env.set i (.ow x))) S1
def newS (i : Nat) (m : EM) : SM := fun env S => (m env S).bind fun x S1 => .ok (.nx (env.set i (.v (.ref S1.length)))) (S1 ++ [x])
theorem ds_set {te : TE} (h : PS X st (tAsg te (gName i))) (hi : ∀ σ H Q, tD X.K cl E m σ H Q → te σ H Q) : PS X st (tS X.K cl E (setS i m)) := h.imp fun D σ H ⟨W, ω, μ, S, env, rl, q⟩ =>
  hi _ _ _ ⟨W, ω, μ, S, env, rl, q.ofG.mono fun x S1 μ1 H1 _ s1 e1 q1 v rv => q1 _ μ1 _ H1 ((rl.ext e1 s1).set rv i) (ExtS.refl.drop fun _ z => mem_set_none z)⟩
theorem ExtS.ownNew {ω : List (Option Addr)} {μ μ' : List Addr} {H H' : Hp} {a : Addr} (e : Ext μ H μ' H') (ha : H a = none) : ExtS ω μ H (ω.set i (some a)) μ' H' :=
  ⟨fun b o q n _ => e.keep b o q n, e.dom, e.pre, fun b z => z.elim (fun z => (e.new b z).elim .inl fun z => .inr (.inr z)) fun z => (List.mem_or_eq_of_mem_set z).elim (fun z => .inr (.inl z)) fun z => by cases z; exact .inr (.inr ha)⟩
theorem SatF.back {K : PySem.W.Frag} {W : Addr → Prop} {ω : List (Option Addr)} {μ : List Addr} {H : Hp} {α : Type} {r : Res α} {k : α → Sto → Res Fl} {D : Ends} (h : SatF K cl W ω μ H (r.bind k) D E) : SatG K cl (Wo W ω) μ H r (fun a S1 μ1 H1 => SatF K cl W ω μ H (k a S1) D E) E := by
  cases r with
  | bad => exact h
  | exc c ns xs S1 =>
    intro μ' H' d s e x
    obtain ⟨fs, e1, e2, e3⟩ := x
    exact h μ' H' d (s.weak wo_left) (e.s.drop fun _ z => nomatch z) ⟨fs, e1, e2, e3.mono (Kp.weak wo_left)⟩
  | ok a S1 => exact fun μ' H' s e => h
theorem ds_own {te : TE} (h : PS X st (tAsg te (gName i))) (hi : ∀ σ H Q, tN X.K cl E m σ H Q → te σ H Q) : PS X st (tS X.K cl E (ownS i m)) := h.imp fun D σ H ⟨W, ω, μ, S, env, rl, q⟩ => by
  refine hi _ _ _ ⟨W, ω, μ, S, env, rl, q.back.mono fun x S1 μ1 H1 _ s1 e1 q1 a ha sb at_ => ?_⟩
  by_cases hl : i < ω.length
  · exact q1 _ μ1 _ H1 (rl.setOwn e1 ha sb at_ i hl) (ExtS.ownNew e1 ha)
  · have z1 : env.set i (.ow x) = env := List.set_eq_of_length_le (by rw [rl.l1, ← rl.l2]; omega)
    have z2 : σ.set i (some (.ref a)) = σ := List.set_eq_of_length_le (by rw [← rl.l2]; omega)
    show D.nx (σ.set i (some (.ref a))) H1
    rw [z2]
    have q2 : SatF X.K cl W ω μ H (.ok (.nx (env.set i (.ow x))) S1) D E := q1
    rw [z1] at q2
    exact q2 ω μ1 σ H1 (rl.ext e1 s1) e1.s
theorem ds_new {te : TE} (h : PS X st (tAsg te (gName i))) (hi : ∀ σ H Q, tN X.K cl E m σ H Q → te σ H Q) : PS X st (tS X.K cl E (newS i m)) := h.imp fun D σ H ⟨W, ω, μ, S, env, rl, q⟩ => by
  refine hi _ _ _ ⟨W, ω, μ, S, env, rl, q.back.mono fun x S1 μ1 H1 _ s1 e1 q1 a ha sb at_ => ?_⟩
  refine q1 _ _ _ H1 (rl.setNew e1 ha sb at_ i) ⟨fun b o q n _ => e1.keep b o q n, e1.dom, fun n b z => ?_, fun b z => ?_⟩
  · rw [List.getElem?_append_left (List.getElem?_eq_some_iff.mp (e1.pre n b z)).1]; exact e1.pre n b z
  · rcases z with z | z
    · rcases List.mem_append.mp z with z | z
      · exact (e1.new b z).elim .inl fun z => .inr (.inr z)
      · have : b = a := by simpa using z
        subst this
        exact .inr (.inr ha)
    · exact .inr (.inl (mem_set_none z))
/-- an own object is done with: from here on a plain value (no statement) -/
def frzS (i : Nat) : SM := fun env S => match env[i]? with
  | some (.ow x) => .ok (.nx (env.set i (.v x))) S
  | _ => .bad
theorem Rl.freeze {K : PySem.W.Frag} {W : Addr → Prop} {ω : List (Option Addr)} {μ : List Addr} {S : Sto} {env : List Sv} {σ : St} {H : Hp} {x : Vl} (rl : Rl K cl W ω μ S env σ H) (he : env[i]? = some (.ow x)) : Rl K cl W (ω.set i none) μ S (env.set i (.v x)) σ H := by
  obtain ⟨o, s, h1, h2, a, h3, h4, h5⟩ := rl.slot he
  subst h4
  subst h3
  have sub : ∀ b, Wo W (ω.set i none) b → Wo W ω b := fun b z => z.elim .inl fun z => .inr (mem_set_none z)
  have na : ¬ Bn (Wo W (ω.set i none)) μ a := fun z => by
    rcases z with z | z | z
    · exact rl.sim.dis a z (.inr (List.mem_of_getElem? h1))
    · exact rl.ow a (List.mem_of_getElem? h1) z
    · obtain ⟨j, hj⟩ := List.getElem?_of_mem z
      by_cases hji : j = i
      · subst hji
        rw [List.getElem?_set_self (by have := (List.getElem?_eq_some_iff.mp hj).1; simpa using this)] at hj
        cases hj
      · rw [List.getElem?_set_ne (Ne.symm hji)] at hj
        exact hji (rl.od j i a hj h1)
  refine ⟨rl.sim.weak sub, by simp [rl.l1], by simp [rl.l2], fun j e o s g1 g2 g3 => ?_, fun j k b g1 g2 => ?_, fun b z => rl.ow b (mem_set_none z)⟩
  · by_cases hj : j = i
    · subst hj
      rw [List.getElem?_set_self (by have := (List.getElem?_eq_some_iff.mp g1).1; simpa using this)] at g1
      rw [List.getElem?_set_self (by have := (List.getElem?_eq_some_iff.mp g2).1; simpa using this)] at g2
      cases g1; cases g2
      rw [h2] at g3; cases g3
      exact ⟨rfl, _, rfl, (h5.mono (Kp.weak sub) fun _ q => q).rep na⟩
    · rw [List.getElem?_set_ne (Ne.symm hj)] at g1 g2
      exact (rl.at_ j e o s g1 g2 g3).mono (Kp.weak sub) fun _ _ _ q => q
  · have f : ∀ l : Nat, (ω.set i none)[l]? = some (some b) → ω[l]? = some (some b) := fun l q => by
      by_cases hl : l = i
      · subst hl
        rw [List.getElem?_set_self (by have := (List.getElem?_eq_some_iff.mp q).1; simpa using this)] at q
        cases q
      · rw [List.getElem?_set_ne (Ne.symm hl)] at q; exact q
    exact rl.od j k b (f j g1) (f k g2)
theorem ds_frz (h : PSs X sts (tS X.K cl E b)) : PSs X sts (tS X.K cl E (seqS (frzS i) b)) := h.imp fun D σ H ⟨W, ω, μ, S, env, rl, q⟩ => by
  unfold seqS frzS at q
  cases he : env[i]? with
  | none => rw [he] at q; exact q.elim
  | some z =>
    rw [he] at q
    cases z with
    | un => exact q.elim
    | v x => exact q.elim
    | sf a x => exact q.elim
    | ow x => exact ⟨W, _, μ, S, _, rl.freeze he, SatF.step (r := b _ S) q (ExtS.refl.drop fun _ z => mem_set_none z)⟩
/-! ### a, b = x, y -/
def par2 (i j : Nat) (m1 m2 : EM) : SM := fun env S => (m1 env S).bind fun x S1 => (m2 env S1).bind fun y S2 => .ok (.nx ((env.set i (.v x)).set j (.v y))) S2
def parVO (i j : Nat) (m1 m2 : EM) : SM := fun env S => (m1 env S).bind fun x S1 => (m2 env S1).bind fun y S2 => .ok (.nx ((env.set i (.v x)).set j (.ow y))) S2
def parOV (i j : Nat) (m1 m2 : EM) : SM := fun env S => (m1 env S).bind fun x S1 => (m2 env S1).bind fun y S2 => .ok (.nx ((env.set i (.ow x)).set j (.v y))) S2
theorem ds_par {t1 t2 : TE} (h : PS X st (tPar i j (tCons t1 (tCons t2 tNil)))) (h1 : ∀ σ H Q, tD X.K cl E m1 σ H Q → t1 σ H Q) (h2 : ∀ σ H Q, tD X.K cl E m2 σ H Q → t2 σ H Q) : PS X st (tS X.K cl E (par2 i j m1 m2)) := h.imp fun D σ H ⟨W, ω, μ, S, env, rl, q⟩ =>
  h1 _ _ _ ⟨W, ω, μ, S, env, rl, q.ofG.mono fun x S1 μ1 H1 _ s1 e1 q1 v rv => h2 _ _ _ ⟨W, ω, μ1, S1, env, rl.ext e1 s1, q1.ofG.mono fun y S2 μ2 H2 _ s2 e2 q2 u ru =>
    ⟨v, u, rfl, q2 _ μ2 _ H2 ((((rl.ext e1 s1).ext e2 s2).set (rv.mono e2.kp) i).set (ru.mono (Kp.weak fun a z => z.elim .inl fun z => .inr (mem_set_none z))) j) (ExtS.refl.drop fun _ z => mem_set_none (mem_set_none z))⟩⟩⟩
theorem ds_parVO {t1 t2 : TE} (h : PS X st (tPar i j (tCons t1 (tCons t2 tNil)))) (h1 : ∀ σ H Q, tD X.K cl E m1 σ H Q → t1 σ H Q) (h2 : ∀ σ H Q, tN X.K cl E m2 σ H Q → t2 σ H Q) : PS X st (tS X.K cl E (parVO i j m1 m2)) := h.imp fun D σ H ⟨W, ω, μ, S, env, rl, q⟩ => by
  refine h1 _ _ _ ⟨W, ω, μ, S, env, rl, q.ofG.mono fun x S1 μ1 H1 _ s1 e1 q1 v rv => h2 _ _ _ ⟨W, ω, μ1, S1, env, rl.ext e1 s1, q1.back.mono fun y S2 μ2 H2 _ s2 e2 q2 a ha sb at_ => ?_⟩⟩
  have r1 := (rl.ext e1 s1).set rv i
  have hw : ∀ b, Wa (Wo W (ω.set i none)) a b → Wa (Wo W ω) a b := fun b z => z.elim (fun z => .inl (z.elim .inl fun z => .inr (mem_set_none z))) .inr
  have d0 : ExtS ω μ1 H1 (ω.set i none) μ1 H1 := ExtS.refl.drop fun _ z => mem_set_none z
  by_cases hl : j < env.length
  · have r2 := r1.setOwn e2 ha (sb.weak hw) (at_.mono (Kp.weak hw) fun _ q => q) j (by rw [List.length_set, rl.l2, ← rl.l1]; exact hl)
    exact ⟨v, .ref a, rfl, q2 _ μ2 _ H2 r2 (d0.trans (ExtS.ownNew e2 ha))⟩
  · have z1 : (env.set i (.v x)).set j (.ow y) = env.set i (.v x) := List.set_eq_of_length_le (by rw [List.length_set]; omega)
    have z2 : (σ.set i (some v)).set j (some (.ref a)) = σ.set i (some v) := List.set_eq_of_length_le (by rw [List.length_set, ← rl.l1]; omega)
    refine ⟨v, .ref a, rfl, ?_⟩
    rw [z2]
    have q3 : SatF X.K cl W ω μ1 H1 (.ok (.nx ((env.set i (.v x)).set j (.ow y))) S2) D E := q2
    rw [z1] at q3
    have s2' : Sim X.K cl (Wo W (ω.set i none)) μ2 S2 H2 := s2.weak fun b z => z.elim .inl fun z => .inr (mem_set_none z)
    exact q3 _ μ2 _ H2 (r1.ext e2 s2') (d0.trans e2.s)
/-! ### a, b, .. = a tuple -/
def setAll : List Nat → List Vl → List Sv → List Sv
  | i :: is, x :: xs, env => setAll is xs (env.set i (.v x))
  | _, _, env => env
def unpS (is : List Nat) (m : EM) : SM := fun env S => (m env S).bind fun x S1 => match x with
  | .tup xs => if xs.length = is.length then .ok (.nx (setAll is xs env)) S1 else .bad
  | _ => .bad
/-- targets that are names -/
def gNames : List Nat → TGs
  | [] => gNil
  | i :: is => gCons (gName i) (gNames is)
theorem gNames_ok {K : PySem.W.Frag} {W : Addr → Prop} {μ : List Addr} {S : Sto} {H : Hp} {Q : St → Hp → Prop} : ∀ {is : List Nat} {xs : List Vl} {vs : List V} {ω : List (Option Addr)} {env : List Sv} {σ : St}, Rl K cl W ω μ S env σ H → Reps K cl (Bn (Wo W ω) μ) μ H xs vs → xs.length = is.length →
    (∀ ω' σ', Rl K cl W ω' μ S (setAll is xs env) σ' H → (∀ a, some a ∈ ω' → some a ∈ ω) → Q σ' H) → gNames is vs σ H Q
  | [], _, _, ω, _, σ, rl, .nil, _, k => ⟨rfl, k ω σ rl fun _ z => z⟩
  | [], _, _, _, _, _, _, .cons _ _, hl, _ => by cases hl
  | i :: is, _, _, ω, env, σ, rl, .cons r rs, hl, k => ⟨_, _, rfl, gNames_ok (rl.set r i) (rs.mono (Kp.weak fun a z => z.elim .inl fun z => .inr (mem_set_none z))) (Nat.succ.inj hl) fun ω' σ' r' h' => k ω' σ' r' fun a z => mem_set_none (h' a z)⟩
  | _ :: _, _, _, _, _, _, _, .nil, hl, _ => by cases hl
theorem ds_unp {te : TE} {is : List Nat} {n : Nat} (h : PS X st (tAsg te (gTup X.K n (gNames is)))) (hn : n = is.length) (hi : ∀ σ H Q, tD X.K cl E m σ H Q → te σ H Q) : PS X st (tS X.K cl E (unpS is m)) := h.imp fun D σ H ⟨W, ω, μ, S, env, rl, q⟩ =>
  hi _ _ _ ⟨W, ω, μ, S, env, rl, q.ofG.mono fun x S1 μ1 H1 _ s1 e1 q1 v rv => by
    cases rv with
    | @tup xs a vs h1 h2 rs =>
      by_cases hl : xs.length = is.length
      · dsimp only at q1
        rw [if_pos hl] at q1
        exact ⟨_, _, rfl, .of h1, by rw [hn, ← hl, rs.length], gNames_ok (rl.ext e1 s1) rs hl fun ω' σ' r' h' => q1 ω' μ1 σ' H1 r' (ExtS.refl.drop h')⟩
      · dsimp only at q1
        rw [if_neg hl] at q1
        exact q1.elim
    | _ => exact q1.elim⟩
end
/-! ### a def -/
def startE (N : Nat) (args : List Vl) : List Sv := args.map .v ++ List.replicate (N - args.length) .un
def runM (N : Nat) (b : SM) (args : List Vl) (S : Sto) : Res Vl := (b (startE N args) S).bind fun f S' => match f with
  | .rt x => .ok x S'
  | .nx _ => .ok .non S'
  | _ => .bad
/-- a def's promise: as its mirror f says, of n arguments -/
def spM (K : PySem.W.Frag) (cl : Cl) (n : Nat) (f : List Vl → Sto → Res Vl) : Sp := fun vs H Q E => ∃ W μ S args, Sim K cl W μ S H ∧ Reps K cl (Bn W μ) μ H args vs ∧ args.length = n ∧
  SatG K cl W μ H (f args S) (fun x _ μ' H' => ∀ v, Rep K cl (Bn W μ') μ' H' x v → Q v H') E
theorem spM_len {K : PySem.W.Frag} {cl : Cl} {n : Nat} {f : List Vl → Sto → Res Vl} {vs : List V} {H : Hp} {Q : VK} {E : XK} (h : spM K cl n f vs H Q E) : vs.length = n := by
  obtain ⟨W, μ, S, args, _, r, l, _⟩ := h
  rw [← r.length]; exact l
theorem start_get {N : List Str} {vs : List V} {args : List Vl} (hl : args.length = vs.length) (i : Nat) (e : Sv) (s : Option V) (h1 : (startE N.length args)[i]? = some e) (h2 : (start N vs)[i]? = some s) :
    (∃ x v, args[i]? = some x ∧ vs[i]? = some v ∧ e = .v x ∧ s = some v) ∨ e = .un := by
  unfold startE at h1
  unfold L2.start at h2
  by_cases hi : i < args.length
  · rw [List.getElem?_append_left (by simpa using hi)] at h1
    rw [List.getElem?_append_left (by simpa [← hl] using hi)] at h2
    rw [List.getElem?_map] at h1 h2
    cases e1 : args[i]? with
    | none => rw [e1] at h1; cases h1
    | some x =>
      cases e2 : vs[i]? with
      | none => rw [e2] at h2; cases h2
      | some v =>
        rw [e1] at h1; rw [e2] at h2
        cases h1; cases h2
        exact .inl ⟨x, v, rfl, rfl, rfl, rfl⟩
  · rw [List.getElem?_append_right (by simpa using hi)] at h1
    rw [List.getElem?_replicate] at h1
    split at h1
    · cases h1; exact .inr rfl
    · cases h1
theorem Rl.start {K : PySem.W.Frag} {cl : Cl} {W : Addr → Prop} {μ : List Addr} {S : Sto} {H : Hp} {N : List Str} {vs : List V} {args : List Vl} (s : Sim K cl W μ S H) (r : Reps K cl (Bn W μ) μ H args vs) : Rl K cl W (List.replicate (start N vs).length none) μ S (startE N.length args) (L2.start N vs) H := by
  have no : ∀ n a, some a ∉ List.replicate n (none : Option Addr) := fun n a z => nomatch (List.eq_of_mem_replicate z)
  have sub : ∀ {n : Nat} (a : Addr), Wo W (List.replicate n none) a → W a := fun a z => z.elim id fun z => (no _ a z).elim
  refine ⟨s.weak sub, by simp [startE, L2.start, r.length], by simp, fun i e o t h1 h2 h3 => ?_, fun i j a h1 _ => (no _ a (List.mem_of_getElem? h1)).elim, fun a z => (no _ a z).elim⟩
  have ho : o = none := List.eq_of_mem_replicate (List.mem_of_getElem? h2)
  rcases start_get r.length i e t h1 h3 with ⟨x, v, a1, a2, rfl, rfl⟩ | rfl
  · obtain ⟨v', b1, b2⟩ := r.get a1
    rw [a2] at b1; cases b1
    exact ⟨ho, v, rfl, b2.mono (Kp.weak sub)⟩
  · exact ho
/-- from a body's mirror to the promise -/
theorem body_ok {K : PySem.W.Frag} {cl : Cl} {N : List Str} {b : SM} {n : Nat} {vs : List V} {H : Hp} {Q : VK} {E : XK} (h : spM K cl n (runM N.length b) vs H Q E) : tS K cl E b { nx := fun _ H' => Q .non H', rt := Q } (start N vs) H := by
  obtain ⟨W, μ, S, args, s, r, _, q⟩ := h
  have no : ∀ {n : Nat} {a : Addr}, some a ∉ List.replicate n (none : Option Addr) := fun z => nomatch (List.eq_of_mem_replicate z)
  have back : ∀ {ω' : List (Option Addr)} {μ' : List Addr} {H' : Hp} {n : Nat}, ExtS (List.replicate n none) μ H ω' μ' H' → Ext μ H μ' H' := fun e => ⟨fun b o q n => e.keep b o q n no, e.dom, e.pre, fun a z => (e.new a (.inl z)).elim .inl fun z => z.elim (fun z => (no z).elim) .inr⟩
  refine ⟨W, _, μ, S, startE N.length args, Rl.start s r, ?_⟩
  unfold runM at q
  revert q
  generalize b (startE N.length args) S = t
  intro q
  cases t with
  | bad => exact q
  | exc c ns xs S' => exact fun μ' H' d s' e' x => q μ' H' d s' (back e') x
  | ok f S' =>
    cases f with
    | nx env => exact fun ω' μ' σ' H' r' e' => q μ' H' (r'.sim.weak wo_left) (back e') .non .non
    | bk env => exact q.elim
    | ct env => exact q.elim
    | rt x => exact fun μ' H' v s' e' r' => q μ' H' s' (back e') v r'
section
variable {P : Program} {w : World} {K : PySem.W.Frag} {mg : Str → Option Value} {base : Heap}
/-- THE RULE for a def -/
theorem fn_ok {cl : Cl} {x qual : Str} {params : Arguments} {body : List Stmt} {scope : Scope} {dvs : List V} {kws : List (Str × V)} {f : Addr} {fd : FuncData} {N ps : List Str} {k : Nat} {b : SM} (F : FunD K x qual params body scope dvs kws f fd) (S : FnScope N ps scope)
    (h : ∀ (cdv : Value) (A : Around) (outer : List Env) (s : Shared) (H : Hp) (E : XK), Room k (A.deeper (PyProof.Rows.envOfC qual scope s.heap.objs.size f cdv)) → PSs (cxOf (L2.CX P w) P w K mg base N qual scope f cdv A outer s H E) body (tS K cl E b)) :
    FnOk P w K mg base (L2.CX P w) (k + 1) f fd ps (spM K cl ps.length (runM N.length b)) :=
  F.ok S (fun vs H Q E h => spM_len h) fun cdv A outer s H vs Q E hr hsp => ⟨_, h cdv A outer s H E hr, body_ok hsp⟩
end
/-! ### its calls -/
section
variable {X : Cx} {cl : Cl} {E : XK} {mA mK : AM} {f : List Vl → Sto → Res Vl} {n : Nat}
def callM (f : List Vl → Sto → Res Vl) (a : AM) : EM := fun env S => (a env S).bind fun xs S1 => f xs S1
/-- .. the defaults xs fill up -/
def callD (f : List Vl → Sto → Res Vl) (ds : List Vl) (a : AM) : EM := fun env S => (a env S).bind fun xs S1 => f (xs ++ ds) S1
theorem sat_call {K : PySem.W.Frag} {W : Addr → Prop} {μ : List Addr} {S : Sto} {H : Hp} {Q : VK} {xs : List Vl} {vs : List V} (s : Sim K cl W μ S H) (r : Reps K cl (Bn W μ) μ H xs vs) (hl : xs.length = n) (q : SatG K cl W μ H (f xs S) (fun x _ μ' H' => ∀ v, Rep K cl (Bn W μ') μ' H' x v → Q v H') E) : spM K cl n f vs H Q E :=
  ⟨W, μ, S, xs, s, r, hl, q⟩
theorem call_t (hn : LenA mA n) {σ : St} {H : Hp} {Q : VK} (h : tD X.K cl E (callM f mA) σ H Q) : tCall (spM X.K cl n f) [] E (tDA X.K cl E mA) σ H Q := by
  obtain ⟨W, ω, μ, S, env, rl, q⟩ := h
  exact ⟨W, ω, μ, S, env, rl, q.bind.mono fun xs S1 μ1 H1 ee s1 e1 q1 vs rs => by
    show spM X.K cl n f (vs ++ []) H1 Q E
    rw [List.append_nil]
    exact sat_call s1 rs (hn _ _ _ _ ee) q1⟩
theorem call_td {k : Nat} {ds : List Vl} {dvs : List V} (hn : LenA mA k) (hk : k + ds.length = n) (hd : ∀ B μ H, Reps X.K cl B μ H ds dvs) {σ : St} {H : Hp} {Q : VK} (h : tD X.K cl E (callD f ds mA) σ H Q) : tCall (spM X.K cl n f) dvs E (tDA X.K cl E mA) σ H Q := by
  obtain ⟨W, ω, μ, S, env, rl, q⟩ := h
  exact ⟨W, ω, μ, S, env, rl, q.bind.mono fun xs S1 μ1 H1 ee s1 e1 q1 vs rs => sat_call s1 (rs.append (hd _ _ _)) (by rw [List.length_append, hn _ _ _ _ ee, hk]) q1⟩
end
end Dm

set_option Elab.async false
set_option linter.all false
set_option maxRecDepth 100000
set_option autoImplicit false
set_option maxHeartbeats 2000000
/-! DmIt: enumerate and zip over lists and tuples in any mix, as what a loop walks. -/
namespace Dm
open PySem PySem.Spec L2
/-! ### a source: a list or a tuple -/
def SqK (k : Bool) (K : PySem.W.Frag) (H : Hp) (a : Addr) (xs : List V) : Prop := if k then SqT K H a xs else SqL K H a xs
def IsK (k : Bool) (h : Heap) (a : Addr) (its : Array Value) : Prop := if k then h.IsTuple a its else h.IsList a its
def ItK (k : Bool) (h : Heap) (it a : Addr) (i : Nat) : Prop := if k then h.IsTupleIter it a i else h.IsListIter it a i
def obK (k : Bool) (a : Addr) : Obj := if k then { cls := .type "tuple_iterator", data := .fields #[.ref a, .int 0 0] } else { cls := .type "list_iterator", data := .fields #[.ref a, .int 0 0] }
theorem src_get {X : Cx} {pins : List (Addr × Obj)} {σ : St} {H : Hp} {s : Shared} {a : Addr} {xs : List V} {k : Bool} (I : Inv X pins σ H s) (h : SqK k X.K H a xs) : ∃ its : List Value, Vals xs its ∧ IsK k s.heap a its.toArray ∧ xs.length ≤ sizeLine := by
  cases k with
  | false =>
    obtain ⟨its, r, p, z⟩ := I.list h
    exact ⟨its, r, p.isList, z⟩
  | true =>
    obtain ⟨its, r, p, z⟩ := I.tuple h
    exact ⟨its, r, p, z⟩
theorem drawK {prog : Program} {w : World} {A : Around} (k : Bool) (hh : A.handled = none) (it a : Addr) (hne : a ≠ it) (items : Array Value) : Draws prog w A it [it, a] items.size (fun i v => items[i]? = some v) (fun i h => ItK k h it a i ∧ IsK k h a items) := by
  cases k with
  | false => exact Draws.list hh it a hne items
  | true => exact Draws.tuple hh it a hne items
theorem beginK (k : Bool) (a : Addr) (items : Array Value) : Begins (.ref a) (obK k a) (fun h => IsK k h a items) := by
  cases k with
  | false => exact begins_list a items
  | true => exact begins_tuple a items
theorem itK_new {k : Bool} {h : Heap} {it a : Addr} (e : h.get? it = some (obK k a)) : ItK k h it a 0 := by
  cases k with
  | false => exact ⟨_, e, rfl, rfl⟩
  | true => exact ⟨_, e, rfl, rfl⟩
theorem itK_at {k : Bool} {h h' : Heap} {it a : Addr} {i : Nat} (x : ItK k h it a i) (e : ∀ o, h.get? it = some o → h'.get? it = some o) : ItK k h' it a i := by
  cases k with
  | false =>
    obtain ⟨o, e1, e2⟩ := x
    exact ⟨o, e o e1, e2⟩
  | true =>
    obtain ⟨o, e1, e2⟩ := x
    exact ⟨o, e o e1, e2⟩
theorem itK_obj {k : Bool} {h : Heap} {it a : Addr} {i : Nat} (x : ItK k h it a i) : ∃ o, h.get? it = some o ∧ ∀ v, o.data ≠ .cell v := by
  cases k with
  | false =>
    obtain ⟨o, e1, _, e2⟩ := x
    exact ⟨o, e1, fun v z => by rw [e2] at z; cases z⟩
  | true =>
    obtain ⟨o, e1, _, e2⟩ := x
    exact ⟨o, e1, fun v z => by rw [e2] at z; cases z⟩
theorem isK_lt {k : Bool} {h : Heap} {a : Addr} {its : Array Value} (x : IsK k h a its) : a < h.objs.size := by
  cases k with
  | false =>
    obtain ⟨o, e, _⟩ := x
    exact Heap.lt_size e
  | true =>
    obtain ⟨o, e, _⟩ := x
    exact Heap.lt_size e
theorem isK_keep {k : Bool} {h h' : Heap} {a : Addr} {its : Array Value} (x : IsK k h a its) (e : ∀ o, h.get? a = some o → h'.get? a = some o) : IsK k h' a its := by
  cases k with
  | false =>
    obtain ⟨o, e1, e2⟩ := x
    exact ⟨o, e o e1, e2⟩
  | true =>
    obtain ⟨o, e1, e2⟩ := x
    exact ⟨o, e o e1, e2⟩
/-! ### enumerate(x) -/
def JEn (k : Bool) (K : PySem.W.Frag) (a : Addr) (xs : List V) : It :=
  ⟨fun i H => i < xs.length ∧ SqK k K H a xs, fun i H v H' => ∃ T x, v = .ref T ∧ H T = none ∧ H' = upd H T (.tup [.int (i : Nat), x]) ∧ xs[i]? = some x, fun i H => xs.length = i ∧ SqK k K H a xs⟩
theorem turn_en {P : Program} {w : World} {K : PySem.W.Frag} {elts : List Expr} {kk : Nat} {tpos : Pos} (k : Bool) (a e it : Addr) (xs : List V) (hne : a ≠ it) (hea : e ≠ a) :
    Turn P w K (.Tuple elts kk tpos) (JEn k K a xs) [e, it] e (fun i h => ((∃ old, IsEnum h e it ((0 : Int) + (i : Int)) old) ∧ ItK k h it a i) ∧ e ≠ it) where
  mem := by simp
  obj := fun i h st b hb => by
    obtain ⟨⟨⟨old, he⟩, hi⟩, _⟩ := st
    rcases (by simpa using hb : b = e ∨ b = it) with z | z
    · rw [z]; exact ⟨_, he, fun v q => nomatch q⟩
    · rw [z]; exact itK_obj hi
  keep := fun i h h' st kp => by
    obtain ⟨⟨⟨old, he⟩, hi⟩, hn⟩ := st
    exact ⟨⟨⟨old, kp e (by simp) _ he⟩, itK_at hi fun o q => kp it (by simp) o q⟩, hn⟩
  item := by
    intro X hP hw hK hc i pins s σ H E I hf st hg
    subst hP hw hK
    obtain ⟨st, hn⟩ := st
    obtain ⟨hlt, hq⟩ := hg
    obtain ⟨its, rv, src, hz⟩ := src_get I hq
    have hl := rv.length
    have G := GoesN.enumFrom (prog := X.prog) (w := X.w) (A := X.A) (elts := elts) (x1 := kk) (pos := tpos) 0 (drawK (prog := X.prog) (w := X.w) (A := X.A.in1) k (I.ok.hd hc) it a hne its.toArray) e hn (by simp [hn, hea]) (by simp)
    refine wpAny_mono (G.goes i s (fun v s2 => ∃ x H', Inv X pins σ H' s2 ∧ RelV x v ∧ (JEn k X.K a xs).yld i H x H' ∧ (((∃ old, IsEnum s2.heap e it ((0 : Int) + ((i + 1 : Nat) : Int)) old) ∧ ItK k s2.heap it a (i + 1)) ∧ e ≠ it) ∧ ∀ b ∈ [e, it], H' b = none) E (by simp; omega) ⟨st.1, st.2, src⟩ ?_) (fun r s1 ⟨v, e1, e2⟩ => ⟨v, e1, e2⟩) fun _ _ z => z
    intro v h' tk ⟨T, t, u, ev, hT, hP, hTup⟩ st' hk _
    subst ev
    obtain ⟨x, hx, rx⟩ : ∃ x, xs[i]? = some x ∧ RelV x u := by
      have hi2 : i < xs.length := hlt
      obtain ⟨u', hu', ru'⟩ := rv.get (List.getElem?_eq_getElem hi2)
      have : u' = u := by
        have z : its.toArray[i]? = some u := hP
        rw [← Array.getElem?_toList] at z
        simp only at z
        rw [hu'] at z
        exact Option.some.inj z
      subst this
      exact ⟨_, List.getElem?_eq_getElem hi2, ru'⟩
    have fresh := I.hok.fresh hT
    have new : ObjOk X.prog X.w (upd H T (.tup [.int (i : Nat), x])) h' T (.tup [.int (i : Nat), x]) := ⟨by show 2 ≤ sizeLine; decide, [.int ((0 : Int) + (i : Int)) t, u], .cons ⟨t, by rw [Int.zero_add]⟩ (.cons rx .nil), hTup⟩
    have I2 := I.turnedNew (t' := tk) (ch := [e, it]) hk hf hT new
    refine ⟨.ref T, _, I2, rfl, ⟨T, x, rfl, fresh, rfl, hx⟩, ⟨⟨st'.1, st'.2.1⟩, hn⟩, fun b hb => ?_⟩
    rw [upd_ne]
    · exact (hf b hb).1
    · intro z
      rw [z] at hb
      obtain ⟨o, ho, _⟩ := (show ∃ o, s.heap.get? T = some o ∧ True from by
        rcases (by simpa using hb : T = e ∨ T = it) with z | z
        · obtain ⟨⟨old, he⟩, _⟩ := st
          exact ⟨_, by rw [z]; exact he, trivial⟩
        · obtain ⟨o, ho, _⟩ := itK_obj st.2
          exact ⟨o, by rw [z]; exact ho, trivial⟩)
      exact absurd (Heap.lt_size ho) (Nat.not_lt.mpr hT)
  done := by
    intro X hP hw hK hc i pins s σ H E I hf st hg
    subst hP hw hK
    obtain ⟨st, hn⟩ := st
    obtain ⟨hlt, hq⟩ := hg
    obtain ⟨its, rv, src, hz⟩ := src_get I hq
    have hl := rv.length
    have G := GoesN.enumFrom (prog := X.prog) (w := X.w) (A := X.A) (elts := elts) (x1 := kk) (pos := tpos) 0 (drawK (prog := X.prog) (w := X.w) (A := X.A.in1) k (I.ok.hd hc) it a hne its.toArray) e hn (by simp [hn, hea]) (by simp)
    have hi : its.toArray.size = i := by simp; omega
    exact G.stops s (fun s1 => Inv X pins σ H s1) E (by rw [hi]; exact ⟨st.1, st.2, src⟩) fun h' tk hk _ => I.turnedL (ch := [e, it]) hk hf
  self := fun A i s Q E st h => by
    obtain ⟨⟨⟨old, he⟩, _⟩, _⟩ := st
    exact wpAny_pyIter_enum he h
set_option maxHeartbeats 2000000 in
theorem enum_new1 {v : Value} {o : Obj} {Hs : Heap → Prop} (B : Begins v o Hs) :
    Meets (Builtin.«enumerate.__new__» ⟨[.type "enumerate", v], []⟩) (fun _ R s => Hs s.heap ∧
      R (.ok (.ret (.ref (s.heap.push o).objs.size))) { s with heap := (s.heap.push o).push { cls := .type "enumerate", data := .fields #[.none, .bool false, .ref s.heap.objs.size, rawInt 0, .none, .none] } }) :=
  .of_wp fun prog w A R s h => by
    obtain ⟨hp, g, d, tk, os⟩ := s
    obtain ⟨h1, h⟩ := h
    have hsub := sub_enumerate
    have itr : ∀ {A' : Around} {E : Value → Shared → Prop} {Q : Value → Shared → Prop}, Q (.ref hp.objs.size) ⟨hp.push o, g, d, tk, os⟩ → wpAny (model prog w) A' (pyIter v) Q E ⟨hp, g, d, tk, os⟩ := fun q => B.iter prog w _ _ ⟨hp, g, d, tk, os⟩ _ h1 q
    wp_walk using itr
    refine wpAny_stack_any fun st => wpAny_pure ?_
    split
    · rename_i c _ _ _ _ _
      cases (c == Value.type "enumerate")
      all_goals (wp_walk using itr; exact ⟨_, rfl, h⟩)
    · wp_walk using itr
      exact ⟨_, rfl, h⟩
theorem call_enum1 {prog : Program} {w : World} {A : Around} {E : Value → Shared → Prop} {s : Shared} {v : Value} {o : Obj} {Hs : Heap → Prop} {Q : Value → Shared → Prop} (B : Begins v o Hs) (h1 : Hs s.heap)
    (h : ∀ h', IsEnum h' (s.heap.objs.size + 1) s.heap.objs.size 0 .none → h'.get? s.heap.objs.size = some o → (∀ b o, s.heap.get? b = some o → h'.get? b = some o) → Q (.ref (s.heap.objs.size + 1)) { s with heap := h' }) :
    wpAny (model prog w) A (call (.type "enumerate") [v]) Q E s := by
  refine callType_new F.called_enumerate (by decide) (F.typeCall_enumerate_1 _) (F.newCall_enumerate_1 _) (fun obj => F.args_object_init_2 obj _) F.entry_enumerate_new (enum_new1 B) ⟨h1, ?_⟩
  have sz : (s.heap.push o).objs.size = s.heap.objs.size + 1 := Heap.size_push ..
  show _ ∧ _
  rw [sz]
  have he : IsEnum ((s.heap.push o).push { cls := .type "enumerate", data := .fields #[.none, .bool false, .ref s.heap.objs.size, rawInt 0, .none, .none] }) (s.heap.objs.size + 1) s.heap.objs.size 0 .none := by
    have z := Heap.get?_push_size (s.heap.push o) (o := { cls := .type "enumerate", data := .fields #[.none, .bool false, .ref s.heap.objs.size, rawInt 0, .none, .none] }) rfl
    rw [sz] at z
    exact z
  exact ⟨⟨_, he, rfl⟩, h _ he (Heap.get?_push_of_some _ (Heap.get?_push_size _ B.free)) fun b o x => Heap.get?_push_of_some _ (Heap.get?_push_of_some _ x)⟩
/-- what is walked, with what the heap holds of lengths -/
def LenOk (H : Hp) : Prop := ∀ a vs, (Rd H a (.lst vs) ∨ Rd H a (.tup vs)) → vs.length ≤ sizeLine
theorem lenOk_of {X : Cx} {pins : List (Addr × Obj)} {σ : St} {H : Hp} {s : Shared} (I : Inv X pins σ H s) : LenOk H := fun a vs h => by
  rcases h with h | h
  · obtain ⟨_, _, _, z⟩ := I.list (a := a) (xs := vs) (.inl h)
    exact z
  · obtain ⟨_, _, _, z⟩ := I.tuple (a := a) (xs := vs) (.inl h)
    exact z
def iEn (K : PySem.W.Frag) (ta : TA) : TI := fun σ H R => ta σ H fun vs H1 => ∃ k a xs, vs = [.ref a] ∧ SqK k K H1 a xs ∧ (LenOk H1 → R (JEn k K a xs) H1)
theorem pi_en {X : Cx} {e : Expr} {ta : TA} {p pos tpos : Pos} {elts : List Expr} {kk : Nat} (hg : Gl X "enumerate") (hm : X.mg "enumerate" = none) (ha : PA X [e] ta) (hs : starEach [e] X.env = [(false, eval e X.env)] := by rfl) :
    PI X (.Tuple elts kk tpos) (.Call (.Name "enumerate" p) [e] [] pos) (iEn X.K ta) := by
  refine ⟨fun pins s σ H R I h => PyProof.Rows.Call_ (ld_blt I hg hm PyProof.Rows.boot_enumerate (PyProof.Rows.callWith_type1 (thn (ha.run pos pins s σ H _ I h) fun us s1 ⟨vs, H1, I1, r1, q1⟩ => ?_) hs rfl))⟩
  obtain ⟨k, a, xs, ex, hq, q⟩ := q1
  subst ex
  obtain ⟨u, rfl, ru⟩ := vals1 r1
  cases ru
  obtain ⟨its, rv, src, hz⟩ := src_get I1 hq
  have la := isK_lt src
  refine call_enum1 (beginK k a its.toArray) src fun h' he hit hk => wpAny_pyIter_enum he ?_
  have I2 : Inv X pins σ H1 { s1 with heap := h' } := I1.kept (t' := s1.toks) hk
  refine ⟨s1.heap.objs.size + 1, [s1.heap.objs.size + 1, s1.heap.objs.size], _, _, H1, rfl, I2, turn_en k a (s1.heap.objs.size + 1) s1.heap.objs.size xs (Nat.ne_of_lt la) (Nat.ne_of_gt (Nat.lt_succ_of_lt la)), ⟨⟨⟨.none, ?_⟩, itK_new hit⟩, Nat.succ_ne_self _⟩, fun b hb => ?_, q (lenOk_of I2)⟩
  · exact he
  · have hle : s1.heap.objs.size ≤ b := by
      rcases (by simpa using hb : b = s1.heap.objs.size + 1 ∨ b = s1.heap.objs.size) with z | z
      · rw [z]; exact Nat.le_add_right _ _
      · rw [z]; exact Nat.le_refl _
    exact I1.fpOk hle (I1.hok.fresh hle)
/-! ### zip(x, y) -/
def JZp (k k2 : Bool) (K : PySem.W.Frag) (a b : Addr) (xs ys : List V) : It :=
  ⟨fun i H => i < min xs.length ys.length ∧ SqK k K H a xs ∧ SqK k2 K H b ys, fun i H v H' => ∃ T x y, v = .ref T ∧ H T = none ∧ H' = upd H T (.tup [x, y]) ∧ xs[i]? = some x ∧ ys[i]? = some y, fun i H => min xs.length ys.length = i ∧ SqK k K H a xs ∧ SqK k2 K H b ys⟩
theorem val_at {xs : List V} {its : List Value} {i : Nat} {u : Value} (rv : Vals xs its) (hi : i < xs.length) (hu : its.toArray[i]? = some u) : ∃ x, xs[i]? = some x ∧ RelV x u := by
  obtain ⟨u', h1, h2⟩ := rv.get (List.getElem?_eq_getElem hi)
  have z : its[i]? = some u := by simpa using hu
  rw [h1] at z
  cases z
  exact ⟨_, List.getElem?_eq_getElem hi, h2⟩
theorem turn_zp {P : Program} {w : World} {K : PySem.W.Frag} {elts : List Expr} {kk : Nat} {tpos : Pos} (k k2 : Bool) (a b z TI TO i1 i2 : Addr) (xs ys : List V) (n1 : a ≠ i1) (n2 : b ≠ i2) (S : ZipSep2 z TI TO i1 i2 [i1, a] [i2, b]) :
    Turn P w K (.Tuple elts kk tpos) (JZp k k2 K a b xs ys) [z, TI, TO, i1, i2] z (fun i h => IsZip h z TI TO .none ∧ IsTupOf2 h TI (.ref i1) (.ref i2) ∧ (∃ a1 a2, IsTupOf2 h TO a1 a2) ∧ ItK k h i1 a i ∧ ItK k2 h i2 b i) where
  mem := by simp
  obj := fun i h st c hc => by
    obtain ⟨h1, h2, ⟨a1, a2, h3⟩, h4, h5⟩ := st
    rcases (by simpa using hc : c = z ∨ c = TI ∨ c = TO ∨ c = i1 ∨ c = i2) with q | q | q | q | q
    · rw [q]; exact ⟨_, h1, fun v q => nomatch q⟩
    · rw [q]; exact ⟨_, h2, fun v q => nomatch q⟩
    · rw [q]; exact ⟨_, h3, fun v q => nomatch q⟩
    · rw [q]; exact itK_obj h4
    · rw [q]; exact itK_obj h5
  keep := fun i h h' st kp => by
    obtain ⟨h1, h2, ⟨a1, a2, h3⟩, h4, h5⟩ := st
    exact ⟨kp z (by simp) _ h1, kp TI (by simp) _ h2, ⟨a1, a2, kp TO (by simp) _ h3⟩, itK_at h4 fun o q => kp i1 (by simp) o q, itK_at h5 fun o q => kp i2 (by simp) o q⟩
  item := by
    intro X hP hw hK hc i pins s σ H E I hf st hg
    subst hP hw hK
    obtain ⟨hlt, hq, hq2⟩ := hg
    obtain ⟨its, rv, src, hz⟩ := src_get I hq
    obtain ⟨its2, rv2, src2, hz2⟩ := src_get I hq2
    have hl := rv.length
    have hl2 := rv2.length
    have G := GoesN.zip2 (prog := X.prog) (w := X.w) (A := X.A) (elts := elts) (x1 := kk) (pos := tpos) S (drawK (prog := X.prog) (w := X.w) (A := X.A.in1) k (I.ok.hd hc) i1 a n1 its.toArray) (drawK (prog := X.prog) (w := X.w) (A := X.A.in1) k2 (I.ok.hd hc) i2 b n2 its2.toArray)
    obtain ⟨t1, t2, t3, t4, t5⟩ := st
    have lts : ∀ c ∈ [z, TI, TO, i1, i2], c < s.heap.objs.size := fun c hcm => by
      have h2 := t2
      obtain ⟨a1, a2, h3⟩ := id t3
      obtain ⟨o4, h4, _⟩ := itK_obj t4
      obtain ⟨o5, h5, _⟩ := itK_obj t5
      rcases (by simpa using hcm : c = z ∨ c = TI ∨ c = TO ∨ c = i1 ∨ c = i2) with q | q | q | q | q
      · rw [q]; exact Heap.lt_size t1
      · rw [q]; exact Heap.lt_size h2
      · rw [q]; exact Heap.lt_size h3
      · rw [q]; exact Heap.lt_size h4
      · rw [q]; exact Heap.lt_size h5
    refine wpAny_mono (G.goes i s (fun v s2 => ∃ x H', Inv X pins σ H' s2 ∧ RelV x v ∧ (JZp k k2 X.K a b xs ys).yld i H x H' ∧ (IsZip s2.heap z TI TO .none ∧ IsTupOf2 s2.heap TI (.ref i1) (.ref i2) ∧ (∃ a1 a2, IsTupOf2 s2.heap TO a1 a2) ∧ ItK k s2.heap i1 a (i + 1) ∧ ItK k2 s2.heap i2 b (i + 1)) ∧ ∀ b ∈ [z, TI, TO, i1, i2], H' b = none) E (by simp; omega) ⟨t1, t2, t3, ⟨t4, src⟩, ⟨t5, src2⟩⟩ ?_) (fun r s1 ⟨v, e1, e2⟩ => ⟨v, e1, e2⟩) fun _ _ z => z
    intro v h' tk ⟨T, u1, u2, ev, hT, hP1, hP2, hTup⟩ st' hk _
    subst ev
    obtain ⟨x, hx, rx⟩ := val_at rv (by omega) hP1
    obtain ⟨y, hy, ry⟩ := val_at rv2 (by omega) hP2
    have fresh := I.hok.fresh hT
    have new : ObjOk X.prog X.w (upd H T (.tup [x, y])) h' T (.tup [x, y]) := ⟨by show 2 ≤ sizeLine; decide, [u1, u2], .cons rx (.cons ry .nil), hTup⟩
    have I2 := I.turnedNew (t' := tk) (ch := [z, TO, i1, i2]) hk (fun c hcm => hf c (by
      rcases (by simpa using hcm : c = z ∨ c = TO ∨ c = i1 ∨ c = i2) with q | q | q | q <;> simp [q])) hT new
    refine ⟨.ref T, _, I2, rfl, ⟨T, x, y, rfl, fresh, rfl, hx, hy⟩, ⟨st'.1, st'.2.1, st'.2.2.1, st'.2.2.2.1.1, st'.2.2.2.2.1⟩, fun c hcm => ?_⟩
    rw [upd_ne]
    · exact (hf c hcm).1
    · intro zz
      rw [zz] at hcm
      exact absurd (lts T hcm) (Nat.not_lt.mpr hT)
  done := by
    intro X hP hw hK hc i pins s σ H E I hf st hg
    subst hP hw hK
    obtain ⟨hlt, hq, hq2⟩ := hg
    obtain ⟨its, rv, src, hz⟩ := src_get I hq
    obtain ⟨its2, rv2, src2, hz2⟩ := src_get I hq2
    have hl := rv.length
    have hl2 := rv2.length
    have G := GoesN.zip2 (prog := X.prog) (w := X.w) (A := X.A) (elts := elts) (x1 := kk) (pos := tpos) S (drawK (prog := X.prog) (w := X.w) (A := X.A.in1) k (I.ok.hd hc) i1 a n1 its.toArray) (drawK (prog := X.prog) (w := X.w) (A := X.A.in1) k2 (I.ok.hd hc) i2 b n2 its2.toArray)
    obtain ⟨t1, t2, t3, t4, t5⟩ := st
    have hi : min its.toArray.size its2.toArray.size = i := by simp; omega
    exact G.stops s (fun s1 => Inv X pins σ H s1) E (by rw [hi]; exact ⟨t1, t2, t3, ⟨t4, src⟩, ⟨t5, src2⟩⟩) fun h' tk hk _ => I.turnedL (ch := [z, TO, i1, i2]) hk fun c hcm => hf c (by
      rcases (by simpa using hcm : c = z ∨ c = TO ∨ c = i1 ∨ c = i2) with q | q | q | q <;> simp [q])
  self := fun A i s Q E st h => wpAny_pyIter_zip st.1 h
def iZp (K : PySem.W.Frag) (ta : TA) : TI := fun σ H R => ta σ H fun vs H1 => ∃ k k2 a b xs ys, vs = [.ref a, .ref b] ∧ SqK k K H1 a xs ∧ SqK k2 K H1 b ys ∧ (LenOk H1 → R (JZp k k2 K a b xs ys) H1)
theorem off_z {N j : Nat} (h : 0 < j) : N ≠ N + j := by omega
theorem pi_zp {X : Cx} {e e2 : Expr} {ta : TA} {p pos tpos : Pos} {elts : List Expr} {kk : Nat} (hg : Gl X "zip") (hm : X.mg "zip" = none) (ha : PA X [e, e2] ta)
    (hs : starEach [e, e2] X.env = (false, eval e X.env) :: starEach [e2] X.env := by rfl) (hpl : (backTo pos (starEach [e2] X.env)).any (·.1) = false := by rfl) :
    PI X (.Tuple elts kk tpos) (.Call (.Name "zip" p) [e, e2] [] pos) (iZp X.K ta) := by
  refine ⟨fun pins s σ H R I h => PyProof.Rows.Call_ (ld_blt I hg hm PyProof.Rows.boot_zip (PyProof.Rows.callWith_type1 (thn (ha.run pos pins s σ H _ I h) fun us s1 ⟨vs, H1, I1, r1, q1⟩ => ?_) hs hpl))⟩
  obtain ⟨k, k2, a, b, xs, ys, ex, hq, hq2, q⟩ := q1
  subst ex
  obtain ⟨u, u2, rfl, ru, ru2⟩ := vals2 r1
  cases ru
  cases ru2
  obtain ⟨its, rv, src, hz⟩ := src_get I1 hq
  obtain ⟨its2, rv2, src2, hz2⟩ := src_get I1 hq2
  have la : a < s1.heap.objs.size := isK_lt src
  have lb : b < s1.heap.objs.size := isK_lt src2
  refine zip_begins2 (beginK k a its.toArray) (beginK k2 b its2.toArray) src src2 fun h' g1 g2 g3 g4 g5 _ hk => wpAny_pyIter_zip g1 ?_
  have I2 : Inv X pins σ H1 { s1 with heap := h' } := I1.kept (t' := s1.toks) hk
  refine ⟨s1.heap.objs.size + 4, [s1.heap.objs.size + 4, s1.heap.objs.size + 2, s1.heap.objs.size + 3, s1.heap.objs.size, s1.heap.objs.size + 1], _, _, H1, rfl, I2,
    turn_zp k k2 a b _ _ _ _ _ xs ys (Nat.ne_of_lt la) (Nat.ne_of_lt (Nat.lt_succ_of_lt lb)) (zip_sep2 (fp1 := [a]) (fp2 := [b]) (fun c hc => by rw [List.mem_singleton.mp hc]; exact la) fun c hc => by rw [List.mem_singleton.mp hc]; exact lb), ⟨g1, g2, ⟨_, _, g3⟩, itK_new g4, itK_new g5⟩, fun c hc => ?_, q (lenOk_of I2)⟩
  have hle : s1.heap.objs.size ≤ c := by
    rcases (by simpa using hc : c = s1.heap.objs.size + 4 ∨ c = s1.heap.objs.size + 2 ∨ c = s1.heap.objs.size + 3 ∨ c = s1.heap.objs.size ∨ c = s1.heap.objs.size + 1) with z | z | z | z | z
    all_goals (rw [z]; first | exact Nat.le_add_right _ _ | exact Nat.le_refl _)
  exact I1.fpOk hle (I1.hok.fresh hle)
end Dm

set_option Elab.async false
set_option linter.all false
set_option maxRecDepth 100000
set_option autoImplicit false
set_option maxHeartbeats 1000000
/-! Dm6: targets, loops, comprehensions by mirrors. -/
namespace Dm
open PySem PySem.Spec L2
/-! ### targets -/
abbrev TF := Vl → List Sv → Option (List Sv)
abbrev TFs := List Vl → List Sv → Option (List Sv)
def tfN (i : Nat) : TF := fun x env => some (env.set i (.v x))
def tfT (f : TFs) : TF := fun x env => match x with
  | .tup xs => f xs env
  | _ => none
def tfNil : TFs := fun xs env => match xs with
  | [] => some env
  | _ => none
def tfCons (f : TF) (g : TFs) : TFs := fun xs env => match xs with
  | x :: r => match f x env with
    | some env1 => g r env1
    | none => none
  | [] => none
theorem wipe_set {σ : St} {i : Nat} {x : Option V} : ∀ {vs : List Nat}, wipe (σ.set i x) vs = if i ∈ vs then wipe σ vs else (wipe σ vs).set i x
  | [] => by simp [wipe]
  | v :: vs => by
    unfold wipe
    rw [wipe_set (vs := vs)]
    by_cases hv : i = v
    · subst hv
      by_cases hm : i ∈ vs
      · simp [hm]
      · simp [hm, List.set_set]
    · by_cases hm : i ∈ vs
      · simp [hm]
      · simp [hm, hv]
        rw [List.set_comm _ _ hv]
theorem wipe_wipe (σ : St) (vs : List Nat) : wipe (wipe σ vs) vs = wipe σ vs := by
  have key : ∀ (ws : List Nat), (∀ w ∈ ws, w ∈ vs) → wipe (wipe σ ws) vs = wipe σ vs := by
    intro ws
    induction ws with
    | nil => intro _; rfl
    | cons v ws ih =>
      intro h
      show wipe ((wipe σ ws).set v none) vs = wipe σ vs
      rw [wipe_set, if_pos (h v (List.mem_cons_self ..))]
      exact ih fun w hw => h w (List.mem_cons_of_mem _ hw)
  exact key vs fun w h => h
structure TgR (K : PySem.W.Frag) (cl : Cl) (W : Addr → Prop) (ω : List (Option Addr)) (μ : List Addr) (S : Sto) (σ : St) (H : Hp) (env1 : List Sv) (ix : List Nat) (ω' : List (Option Addr)) (σ' : St) : Prop where
  rl : Rl K cl W ω' μ S env1 σ' H
  sub : ∀ a, some a ∈ ω' → some a ∈ ω
  wp : ∀ vs : List Nat, (∀ i ∈ ix, i ∈ vs) → wipe σ' vs = wipe σ vs
  same : (∀ i ∈ ix, ∀ a, ω[i]? ≠ some (some a)) → ω' = ω
def TgOk (K : PySem.W.Frag) (cl : Cl) (g : TG) (f : TF) (ix : List Nat) : Prop := ∀ (W : Addr → Prop) (ω : List (Option Addr)) (μ : List Addr) (S : Sto) (env env1 : List Sv) (σ : St) (H : Hp) (x : Vl) (v : V) (Q : St → Hp → Prop), Rl K cl W ω μ S env σ H → Rep K cl (Bn (Wo W ω) μ) μ H x v → f x env = some env1 →
  (∀ ω' σ', TgR K cl W ω μ S σ H env1 ix ω' σ' → Q σ' H) → g v σ H Q
def TgsOk (K : PySem.W.Frag) (cl : Cl) (g : TGs) (f : TFs) (ix : List Nat) : Prop := ∀ (W : Addr → Prop) (ω : List (Option Addr)) (μ : List Addr) (S : Sto) (env env1 : List Sv) (σ : St) (H : Hp) (xs : List Vl) (vs : List V) (Q : St → Hp → Prop), Rl K cl W ω μ S env σ H → Reps K cl (Bn (Wo W ω) μ) μ H xs vs → f xs env = some env1 →
  (∀ ω' σ', TgR K cl W ω μ S σ H env1 ix ω' σ' → Q σ' H) → g vs σ H Q
theorem set_none_same : ∀ {ω : List (Option Addr)} {i : Nat}, (∀ a, ω[i]? ≠ some (some a)) → ω.set i none = ω
  | [], _, _ => rfl
  | none :: ω, 0, _ => rfl
  | some a :: ω, 0, h => absurd rfl (h a)
  | o :: ω, i + 1, h => by
    show o :: ω.set i none = o :: ω
    rw [set_none_same fun a => by simpa using h a]
section
variable {K : PySem.W.Frag} {cl : Cl}
theorem tg_name (i : Nat) : TgOk K cl (gName i) (tfN i) [i] := fun W ω μ S env env1 σ H x v Q rl rv h k => by
  cases h
  exact k _ _ ⟨rl.set rv i, fun _ z => mem_set_none z, fun vs hv => by rw [wipe_set, if_pos (hv i (by simp))], fun hn => set_none_same (hn i (by simp))⟩
theorem tgs_nil : TgsOk K cl gNil tfNil [] := fun W ω μ S env env1 σ H xs vs Q rl rv h k => by
  cases rv with
  | nil =>
    cases h
    exact ⟨rfl, k _ _ ⟨rl, fun _ z => z, fun vs _ => rfl, fun _ => rfl⟩⟩
  | cons r rs => cases h
theorem tgs_cons {g : TG} {gs : TGs} {f : TF} {fs : TFs} {ix iy : List Nat} (h1 : TgOk K cl g f ix) (h2 : TgsOk K cl gs fs iy) : TgsOk K cl (gCons g gs) (tfCons f fs) (ix ++ iy) := fun W ω μ S env env1 σ H xs vs Q rl rv h k => by
  cases rv with
  | nil => cases h
  | @cons x xs v vs r rs =>
    unfold tfCons at h
    dsimp only at h
    cases e : f x env with
    | none => rw [e] at h; cases h
    | some env2 =>
      rw [e] at h
      refine ⟨v, vs, rfl, h1 W ω μ S env env2 σ H x v _ rl r e fun ω' σ' t => ?_⟩
      refine h2 W ω' μ S env2 env1 σ' H xs vs Q t.rl (rs.mono (Kp.weak fun a z => z.elim .inl fun z => .inr (t.sub a z))) h fun ω2 σ2 t2 => ?_
      exact k ω2 σ2 ⟨t2.rl, fun a z => t.sub a (t2.sub a z), fun vs hv => (t2.wp vs fun i hi => hv i (List.mem_append_right _ hi)).trans (t.wp vs fun i hi => hv i (List.mem_append_left _ hi)), fun hn => by
        have z := t.same fun i hi => hn i (List.mem_append_left _ hi)
        rw [← z]
        exact t2.same fun i hi => by rw [z]; exact hn i (List.mem_append_right _ hi)⟩
/-- how many items a row of targets takes -/
def TfLen (f : TFs) (n : Nat) : Prop := ∀ xs env env1, f xs env = some env1 → xs.length = n
theorem tfl_nil : TfLen tfNil 0 := fun xs env env1 h => by
  cases xs with
  | nil => rfl
  | cons x xs => cases h
theorem tfl_cons {f : TF} {fs : TFs} {n : Nat} (h : TfLen fs n) : TfLen (tfCons f fs) (n + 1) := fun xs env env1 q => by
  cases xs with
  | nil => cases q
  | cons x xs =>
    unfold tfCons at q
    dsimp only at q
    cases e : f x env with
    | none => rw [e] at q; cases q
    | some env2 =>
      rw [e] at q
      exact congrArg (· + 1) (h _ _ _ q)
theorem tg_tup {gs : TGs} {fs : TFs} {ix : List Nat} {n : Nat} (h : TgsOk K cl gs fs ix) (hn : TfLen fs n) : TgOk K cl (gTup K n gs) (tfT fs) ix := fun W ω μ S env env1 σ H x v Q rl rv e k => by
  unfold tfT at e
  cases rv with
  | @tup xs a vs h1 h2 rs => exact ⟨a, vs, rfl, .of h1, by rw [← rs.length]; exact hn _ _ _ e, h W ω μ S env env1 σ H xs vs Q rl rs e k⟩
  | _ => cases e
end
/-- target = e -/
def asgS (f : TF) (m : EM) : SM := fun env S => (m env S).bind fun x S1 => match f x env with
  | some env1 => .ok (.nx env1) S1
  | none => .bad
section
variable {X : Cx} {cl : Cl} {E : XK} {st : Stmt} {sts : List Stmt} {b : SM} {m m1 m2 : EM} {i j : Nat} {e : Expr} {pos : Pos} {g : TG} {f : TF} {ix : List Nat}
theorem ds_asg {te : TE} (h : PS X st (tAsg te g)) (hg : TgOk X.K cl g f ix) (hi : ∀ σ H Q, tD X.K cl E m σ H Q → te σ H Q) : PS X st (tS X.K cl E (asgS f m)) := h.imp fun D σ H ⟨W, ω, μ, S, env, rl, q⟩ =>
  hi _ _ _ ⟨W, ω, μ, S, env, rl, q.ofG.mono fun x S1 μ1 H1 _ s1 e1 q1 v rv => by
    cases e2 : f x env with
    | none => rw [e2] at q1; exact q1.elim
    | some env1 =>
      rw [e2] at q1
      exact hg W ω μ1 S1 env env1 σ H1 x v _ (rl.ext e1 s1) rv e2 fun ω' σ' t => q1 ω' μ1 σ' H1 t.rl (ExtS.refl.drop t.sub)⟩
/-! ### what is walked -/
abbrev IM := List Sv → Sto → Res (List Vl)
structure ItOk (K : PySem.W.Frag) (cl : Cl) (J : It) (N : Addr → Prop) (B : Addr → Prop) (μ : List Addr) (H0 : Hp) (xs : List Vl) : Prop where
  len : xs.length ≤ sizeLine
  go : ∀ i H, i < xs.length → (∀ a o, H0 a = some o → ¬ N a → H a = some o) → J.go i H
  stop : ∀ H, (∀ a o, H0 a = some o → ¬ N a → H a = some o) → J.stop xs.length H
  yld : ∀ i H v H' B' μ', i < xs.length → (∀ a o, H0 a = some o → ¬ N a → H a = some o) → Kp B B' μ μ' H0 H → (∀ a, B' a → NT (H a)) → J.yld i H v H' → ∃ x, xs[i]? = some x ∧ Rep K cl B' μ' H' x v ∧ (H' = H ∨ ∃ T o, H T = none ∧ H' = upd H T o)
/-- what a loop (st), a comprehension may change meanwhile -/
def Nn (st : Bool) (ω : List (Option Addr)) (μ : List Addr) : Addr → Prop := fun a => a ∈ μ ∨ (st = true ∧ some a ∈ ω)
def tI (st : Bool) (K : PySem.W.Frag) (cl : Cl) (E : XK) (im : IM) : TI := fun σ H R => ∃ W ω μ S env, Rl K cl W ω μ S env σ H ∧
  SatG K cl (Wo W ω) μ H (im env S) (fun xs S' μ' H' => ∀ J, ItOk K cl J (Nn st ω μ') (Bn (Wo W ω) μ') μ' H' xs → R J H') E
theorem _root_.L2.PI.imp {tg : Expr} {wi wi' : TI} (h : PI X tg e wi) (k : ∀ σ H R, wi' σ H R → wi σ H R) : PI X tg e wi' := ⟨fun pins s σ H R I q => h.run pins s σ H R I (k σ H R q)⟩
theorem pi_len {tg : Expr} {wi : TI} (h : PI X tg e wi) : PI X tg e (fun σ H R => wi σ H fun J H1 => LenOk H1 → R J H1) := ⟨fun pins s σ H R I hw => thn (h.run pins s σ H _ I hw) fun v s1 h1 => thn h1 fun itv s2 ⟨it, fp, tn, J, H', e, I', T, st, f, r⟩ => ⟨it, fp, tn, J, H', e, I', T, st, f, r (lenOk_of I')⟩⟩
theorem pi_or {tg : Expr} {w1 w2 : TI} (h1 : PI X tg e w1) (h2 : PI X tg e w2) : PI X tg e (fun σ H R => w1 σ H R ∨ w2 σ H R) := ⟨fun pins s σ H R I q => q.elim (h1.run pins s σ H R I) (h2.run pins s σ H R I)⟩
/-! #### a loop -/
def loopS (f : TF) (b : SM) : List Vl → List Sv → Sto → Res Fl
  | [], env, S => .ok (.nx env) S
  | x :: xs, env, S => match f x env with
    | none => .bad
    | some env1 => (b env1 S).bind fun fl S1 => match fl with
      | .nx env2 => loopS f b xs env2 S1
      | .ct env2 => loopS f b xs env2 S1
      | .bk env2 => .ok (.nx env2) S1
      | .rt y => .ok (.rt y) S1
def forS (im : IM) (f : TF) (b : SM) : SM := fun env S => (im env S).bind fun xs S1 => loopS f b xs env S1
theorem kp_of {K : PySem.W.Frag} {W : Addr → Prop} {ω ω' : List (Option Addr)} {μ μ' : List Addr} {H H' : Hp} (e : ExtS ω μ H ω' μ' H') : Kp (Bn (Wo W ω) μ) (Bn (Wo W ω') μ') μ μ' H H' where
  obj := fun a o h n => ⟨e.keep a o h (fun z => n (.inl z)) fun z => n (.inr (.inr z)), fun z => by
    rcases z with z | z | z
    · rcases e.new a (.inl z) with z | z | z
      · exact n (.inl z)
      · exact n (.inr (.inr z))
      · rw [h] at z; cases z
    · exact n (.inr (.inl z))
    · rcases e.new a (.inr z) with z | z | z
      · exact n (.inl z)
      · exact n (.inr (.inr z))
      · rw [h] at z; cases z⟩
  num := e.pre
theorem for_ok {tb : TS} (hg : TgOk X.K cl g f ix) (hb : ∀ D σ H, tS X.K cl E b D σ H → tb D σ H) {D : Ends} {W : Addr → Prop} {ω : List (Option Addr)} {μ : List Addr} {S : Sto} {env : List Sv} {σ : St} {H : Hp} {xs : List Vl} {J : It}
    (rl : Rl X.K cl W ω μ S env σ H) (io : ItOk X.K cl J (Nn true ω μ) (Bn (Wo W ω) μ) μ H xs) (q : SatF X.K cl W ω μ H (loopS f b xs env S) D E) :
    ∃ W : Nat → Nat → St → Hp → Prop, (∃ m, W 0 m σ H) ∧ ∀ i m σ H, W i m σ H →
      (J.stop i H ∧ D.nx σ H) ∨ (J.go i H ∧ ∃ N : St → Hp → Prop, (∀ σ' H', N σ' H' → ∃ m', m' < m ∧ W (i + 1) m' σ' H') ∧ ∀ x H', J.yld i H x H' → g x σ H' fun σ2 H2 => tb { D with nx := N, ct := N, bk := D.nx } σ2 H2) := by
  have std : ∀ {ω' : List (Option Addr)} {μ' : List Addr} {H' : Hp}, ExtS ω μ H ω' μ' H' → ∀ a o, H a = some o → ¬ Nn true ω μ a → H' a = some o := fun e a o h n => e.keep a o h (fun z => n (.inl z)) fun z => n (.inr ⟨rfl, z⟩)
  let Pv : Nat → St → Hp → Prop := fun i σ' H' => ∃ ω' μ' S' env', Rl X.K cl W ω' μ' S' env' σ' H' ∧ ExtS ω μ H ω' μ' H' ∧ SatF X.K cl W ω μ H (loopS f b (xs.drop i) env' S') D E
  refine ⟨fun i m σ' H' => m = xs.length - i ∧ i ≤ xs.length ∧ Pv i σ' H', ⟨xs.length, by simp, Nat.zero_le _, ω, μ, S, env, rl, ExtS.refl, q⟩, ?_⟩
  rintro i m σ' H' ⟨rfl, hi, ω', μ', S', env', r', e', q'⟩
  by_cases hlt : i < xs.length
  · refine .inr ⟨io.go i H' hlt (std e'), Pv (i + 1), fun σ2 H2 p => ⟨xs.length - (i + 1), by omega, rfl, hlt, p⟩, fun v H2 y => ?_⟩
    obtain ⟨x, hx, rv, hH⟩ := io.yld i H' v H2 (Bn (Wo W ω') μ') μ' hlt (std e') (kp_of (K := X.K) e') (fun a z => r'.sim.nts z) y
    have ed : xs.drop i = x :: xs.drop (i + 1) := by
      rw [List.drop_eq_getElem_cons hlt]
      congr 1
      exact Option.some.inj ((List.getElem?_eq_getElem hlt).symm.trans hx)
    rw [ed] at q'
    have x2 : Ext μ' H' μ' H2 ∧ Rl X.K cl W ω' μ' S' env' σ' H2 := by
      rcases hH with z | ⟨T, o, hT, z⟩
      · rw [z]; exact ⟨Ext.refl, r'⟩
      · rw [z]; exact ⟨Ext.fresh hT, r'.fresh hT⟩
    unfold loopS at q'
    cases ef : f x env' with
    | none => rw [ef] at q'; exact q'.elim
    | some env1 =>
      rw [ef] at q'
      dsimp only at q'
      refine hg W ω' μ' S' env' env1 σ' H2 x v _ x2.2 rv ef fun ω2 σ2 t => hb _ _ _ ⟨W, ω2, μ', S', env1, t.rl, ?_⟩
      have ee : ExtS ω μ H ω2 μ' H2 := (e'.trans x2.1.s).drop t.sub
      revert q'
      generalize b env1 S' = r
      intro q'
      cases r with
      | bad => exact q'
      | exc c ns ys S2 => exact fun μ3 H3 d s3 e3 x3 => q' μ3 H3 d s3 (ee.trans e3) x3
      | ok fl S2 =>
        cases fl with
        | nx env2 => exact fun ω3 μ3 σ3 H3 r3 e3 => ⟨ω3, μ3, S2, env2, r3, ee.trans e3, q'⟩
        | ct env2 => exact fun ω3 μ3 σ3 H3 r3 e3 => ⟨ω3, μ3, S2, env2, r3, ee.trans e3, q'⟩
        | bk env2 => exact fun ω3 μ3 σ3 H3 r3 e3 => q' ω3 μ3 σ3 H3 r3 (ee.trans e3)
        | rt y => exact fun μ3 H3 v3 s3 e3 r3 => q' μ3 H3 v3 s3 (ee.trans e3) r3
  · have ei : i = xs.length := by omega
    subst ei
    rw [List.drop_length] at q'
    exact .inl ⟨io.stop H' (std e'), q' ω' μ' σ' H' r' e'⟩
theorem ds_for {tg iter : Expr} {body : List Stmt} {im : IM} (hp : PassesOwn (model X.prog X.w) X.A X.env X.xe) (hc : X.calm = true) (hi : PI X tg iter (tI true X.K cl E im)) (hg : PG X tg g) (ho : TgOk X.K cl g f ix) (hb : PSs X body (tS X.K cl E b))
    (hs : ∀ x, foldedSetIterable iter X.env x = pure x := by intro _; rfl) : PS X (.For tg iter body [] pos) (tS X.K cl E (forS im f b)) :=
  (ps_for hp hc hi hg hb hs).imp fun D σ H ⟨W, ω, μ, S, env, rl, q⟩ => ⟨W, ω, μ, S, env, rl, q.ofG.mono fun xs S1 μ1 H1 _ s1 e1 q1 J io => for_ok ho (fun _ _ _ h => h) (rl.ext e1 s1) io q1⟩
end
end Dm

set_option Elab.async false
set_option linter.all false
set_option maxRecDepth 100000
set_option autoImplicit false
set_option maxHeartbeats 1000000
/-! Dm7: comprehensions; what is walked: lists, tuples, ranges, enumerate, zip, texts; while. -/
namespace Dm
open PySem PySem.Spec L2
/-- nothing raised -/
def Res.nox {α : Type} (r : Res α) : Res α := match r with
  | .ok a S => .ok a S
  | _ => .bad
@[simp] theorem nox_ok {α : Type} (a : α) (S : Sto) : (Res.ok a S).nox = .ok a S := rfl
theorem SatG.nox {α β : Type} {K : PySem.W.Frag} {cl : Cl} {W : Addr → Prop} {μ : List Addr} {H : Hp} {r : Res α} {k : α → Sto → Res β} {P : β → Sto → List Addr → Hp → Prop} {E E' : XK} (h : SatG K cl W μ H (r.nox.bind k) P E) :
    SatG K cl W μ H r (fun a S1 μ1 H1 => SatG K cl W μ1 H1 (k a S1) P E) E' := by
  cases r with
  | bad => exact h.elim
  | exc c ns xs S => exact h.elim
  | ok a S1 => exact h.bind (r := .ok a S1)
def wipeE : List Nat → List Sv → Option (List Sv)
  | [], env => some env
  | v :: vs, env => match wipeE vs env with
    | none => none
    | some e1 => match e1[v]? with
      | some (.ow _) => none
      | some (.sf _ _) => none
      | _ => some (e1.set v .un)
theorem Rl.wipe {K : PySem.W.Frag} {cl : Cl} {W : Addr → Prop} {ω : List (Option Addr)} {μ : List Addr} {S : Sto} {env : List Sv} {σ : St} {H : Hp} (rl : Rl K cl W ω μ S env σ H) : ∀ {vs : List Nat} {e1 : List Sv}, wipeE vs env = some e1 → Rl K cl W ω μ S e1 (L2.wipe σ vs) H
  | [], _, h => by cases h; exact rl
  | v :: vs, e1, h => by
    unfold wipeE at h
    cases e2 : wipeE vs env with
    | none => rw [e2] at h; cases h
    | some e3 =>
      rw [e2] at h
      have r := Rl.wipe rl e2
      dsimp only at h
      have hno : ∀ x, e3[v]? ≠ some (.ow x) := fun x z => by rw [z] at h; cases h
      have hno2 : ∀ a x, e3[v]? ≠ some (.sf a x) := fun a x z => by rw [z] at h; cases h
      have he : e1 = e3.set v .un := by
        split at h
        · cases h
        · cases h
        · exact (Option.some.inj h).symm
      subst he
      show Rl K cl W ω μ S (e3.set v .un) ((L2.wipe σ vs).set v none) H
      refine ⟨r.sim, by simp [r.l1], by simp [r.l2], fun j e o s h1 h2 h3 => ?_, r.od, r.ow⟩
      by_cases hj : j = v
      · subst hj
        have hl := (List.getElem?_eq_some_iff.mp h1).1
        rw [List.length_set] at hl
        rw [List.getElem?_set_self hl] at h1
        cases h1
        obtain ⟨o', s', g1, g2, g3⟩ := r.slot (List.getElem?_eq_getElem hl)
        rw [h2] at g1
        cases g1
        cases hz : e3[j] with
        | un => rw [hz] at g3; exact g3
        | v x => rw [hz] at g3; exact g3.1
        | ow x => exact absurd (by rw [List.getElem?_eq_getElem hl, hz]) (hno x)
        | sf a x => exact absurd (by rw [List.getElem?_eq_getElem hl, hz]) (hno2 a x)
      · rw [List.getElem?_set_ne (Ne.symm hj)] at h1 h3
        exact r.at_ j e o s h1 h2 h3
theorem wipeE_un : ∀ {vs : List Nat} {env e1 : List Sv}, wipeE vs env = some e1 → e1.length = env.length ∧ ∀ i ∈ vs, i < env.length → e1[i]? = some .un
  | [], _, _, h => by cases h; exact ⟨rfl, fun i hi => nomatch hi⟩
  | v :: vs, env, e1, h => by
    unfold wipeE at h
    cases e2 : wipeE vs env with
    | none => rw [e2] at h; cases h
    | some e3 =>
      rw [e2] at h
      obtain ⟨l, ih⟩ := wipeE_un e2
      have he : e1 = e3.set v .un := by
        dsimp only at h
        split at h
        · cases h
        · cases h
        · exact (Option.some.inj h).symm
      subst he
      refine ⟨by simp [l], fun i hi hl => ?_⟩
      by_cases hv : i = v
      · subst hv
        rw [List.getElem?_set_self (by rw [l]; exact hl)]
      · rw [List.getElem?_set_ne (Ne.symm hv)]
        exact ih i ((List.mem_cons.mp hi).resolve_left hv) hl
def compL (f : TF) (tt : TM) (te : EM) (env : List Sv) : List Vl → Sto → Res (List Vl)
  | [], S => .ok [] S
  | x :: xs, S => match f x env with
    | none => .bad
    | some env1 => (tt env1 S).nox.bind fun k S1 => if k then (te env1 S1).nox.bind fun y S2 => (compL f tt te env xs S2).bind fun ys S3 => .ok (y :: ys) S3 else compL f tt te env xs S1
def compM (im : IM) (vs : List Nat) (f : TF) (tt : TM) (te : EM) : EM := fun env S => (im env S).bind fun xs S1 => match wipeE vs env with
  | none => .bad
  | some env1 => (compL f tt te env1 xs S1).bind fun ys S2 => .ok (.lst ys) S2
def yesT : TM := fun _ S => .ok true S
/-- W and one more -/
theorem wo_wa {W : Addr → Prop} {ω : List (Option Addr)} {D : Addr} (a : Addr) : Wa (Wo W ω) D a ↔ Wo (Wa W D) ω a := by
  unfold Wa Wo
  constructor
  · rintro ((h | h) | h)
    · exact .inl (.inl h)
    · exact .inr h
    · exact .inl (.inr h)
  · rintro ((h | h) | h)
    · exact .inl (.inl h)
    · exact .inr h
    · exact .inl (.inr h)
/-- a banned object of nobody's changed -/
theorem Sim.updW {K : PySem.W.Frag} {cl : Cl} {W : Addr → Prop} {μ : List Addr} {S : Sto} {H : Hp} (s : Sim K cl W μ S H) {D : Addr} {o : HO} (hD : W D) (ho : ∀ vs, o ≠ .tup vs := by first | exact Ho.nt (by assumption) | (intro _ z; cases z)) : Sim K cl W μ S (L2.upd H D o) ∧ Kp (Bn W μ) (Bn W μ) μ μ H (L2.upd H D o) := by
  have kp : Kp (Bn W μ) (Bn W μ) μ μ H (L2.upd H D o) := ⟨fun b u q n => ⟨by rw [upd_ne (show b ≠ D from fun z => n (.inr (by rw [z]; exact hD)))]; exact q, n⟩, fun _ _ q => q⟩
  refine ⟨⟨s.len, s.nd, s.dis, fun b w => ?_, fun n x e => ?_⟩, kp⟩
  · exact (s.trn b w).upd ho
  · obtain ⟨a, e1, e2⟩ := s.obs n x e
    exact ⟨a, e1, e2.mono kp fun u q => by rw [upd_ne (show a ≠ D from fun z => s.dis a (List.mem_of_getElem? e1) (by rw [z]; exact hD))]; exact q⟩
section
variable {X : Cx} {cl : Cl} {E : XK} {e : Expr} {pos : Pos} {g : TG} {f : TF} {ix vs : List Nat} {im : IM} {tt : TM} {te : EM}
theorem comp_t (hg : TgOk X.K cl g f ix) (hx : ∀ i ∈ ix, i ∈ vs) {gtt : TT} {gte : TE} (ht : ∀ σ H Q, tDT X.K cl E0 tt σ H Q → gtt σ H Q) (he : ∀ σ H Q, tD X.K cl E0 te σ H Q → gte σ H Q) {wi : TI} (hw : ∀ σ H R, tI false X.K cl E im σ H R → wi σ H R)
    {σ : St} {H : Hp} {Q : VK} (h : tN X.K cl E (compM im vs f tt te) σ H Q) : tLc wi g gtt gte vs σ H Q := by
  obtain ⟨W, ω, μ, S, env, rl, q⟩ := h
  refine hw _ _ _ ⟨W, ω, μ, S, env, rl, q.bind.mono fun xs S1 μ1 H1 _ s1 e1 q1 J io D hD => ?_⟩
  cases hwp : wipeE vs env with
  | none => rw [hwp] at q1; exact q1.elim
  | some env1 =>
    rw [hwp] at q1
    dsimp only at q1
    have q2 := q1.bind
    have Dm : D ∉ μ1 := fun z => s1.tracked (.inl z) hD
    have cvt : ∀ {μ' : List Addr} {S' : Sto} {H' : Hp}, Sim X.K cl (Wo (Wa W D) ω) μ' S' H' → Sim X.K cl (Wa (Wo W ω) D) μ' S' H' := fun s => s.weak fun a z => (wo_wa a).mp z
    -- the block's state
    let Pv : Nat → Hp → Prop := fun i H' => ∃ μ' S' acc accV, Sim X.K cl (Wo (Wa W D) ω) μ' S' H' ∧ Ext μ1 H1 μ' H' ∧ H' D = some (.lst accV) ∧ Reps X.K cl (Bn (Wo (Wa W D) ω) μ') μ' H' acc accV ∧ acc.length ≤ i ∧
      SatG X.K cl (Wo W ω) μ1 H1 (compL f tt te env1 (xs.drop i) S') (fun ys S2 μ2 H2 => ∀ a, H a = none → Sim X.K cl (Wa (Wo W ω) a) μ2 S2 H2 → At X.K cl (Bn (Wa (Wo W ω) a) μ2) μ2 H2 a (.lst (acc ++ ys)) → Q (.ref a) H2) E
    have rl1 := rl.ext e1 s1
    have mkRl : ∀ {μ' : List Addr} {S' : Sto} {H' : Hp}, Sim X.K cl (Wo (Wa W D) ω) μ' S' H' → Ext μ1 H1 μ' H' → Rl X.K cl (Wa W D) ω μ' S' env1 (wipe σ vs) H' := fun s' e' => by
      have r0 := rl1.wipe hwp
      have kp : Kp (Bn (Wo W ω) μ1) (Bn (Wo (Wa W D) ω) _) μ1 _ H1 _ := ⟨fun a o h n => ⟨e'.keep a o h fun z => n (.inl z), fun z => by
        rcases z with z | (z | z) | z
        · rcases e'.new a z with z | z
          · exact n (.inl z)
          · rw [h] at z; cases z
        · exact n (.inr (.inl z))
        · rw [z, hD] at h; cases h
        · exact n (.inr (.inr z))⟩, e'.pre⟩
      exact ⟨s', r0.l1, r0.l2, fun i x o t h1 h2 h3 => (r0.at_ i x o t h1 h2 h3).mono kp fun a u z q => e'.keep a u q fun hm => r0.sim.dis a hm (.inr (by rw [← z]; exact List.mem_of_getElem? h2)), r0.od, fun a z w => w.elim (r0.ow a z) fun w => s1.trk a (.inr z) (by rw [w]; exact hD)⟩
    have dn : ∀ a : Addr, a = D → H a = none := fun a z => by rw [z]; exact fresh_back e1 hD
    refine ⟨fun i m H' => m = xs.length - i ∧ i ≤ xs.length ∧ Pv i H', ⟨xs.length, by simp, Nat.zero_le _, μ1, S1, [], [], ?_, Ext.fresh hD, upd_same, .nil, Nat.le_refl _, ?_⟩, ?_⟩
    · exact (s1.freshBan hD Dm).weak fun a z => (wo_wa a).mpr z
    · show SatG X.K cl (Wo W ω) μ1 H1 (compL f tt te env1 xs S1) _ E
      refine q2.mono fun ys S2 μ2 H2 _ s2 e2 q3 a ha sb at_ => ?_
      exact q3 μ2 H2 s2 Ext.refl a ha sb (by simpa using at_)
    · rintro i m H' ⟨rfl, hi, μ', S', acc, accV, s', e', hDv, racc, hacc, q'⟩
      have std : ∀ a o, H1 a = some o → ¬ Nn false ω μ1 a → H' a = some o := fun a o h n => e'.keep a o h fun z => n (.inl z)
      by_cases hlt : i < xs.length
      · refine .inr ⟨io.go i H' hlt std, Pv (i + 1), fun H2 p => ⟨xs.length - (i + 1), by omega, rfl, hlt, p⟩, fun v H2 y => ?_⟩
        have r1 := mkRl s' e'
        have kp : Kp (Bn (Wo W ω) μ1) (Bn (Wo (Wa W D) ω) μ') μ1 μ' H1 H' := ⟨fun a o h n => ⟨e'.keep a o h fun z => n (.inl z), fun z => by
          rcases z with z | (z | z) | z
          · rcases e'.new a z with z | z
            · exact n (.inl z)
            · rw [h] at z; cases z
          · exact n (.inr (.inl z))
          · rw [z, hD] at h; cases h
          · exact n (.inr (.inr z))⟩, e'.pre⟩
        obtain ⟨x, hxx, rv, hH⟩ := io.yld i H' v H2 (Bn (Wo (Wa W D) ω) μ') μ' hlt std kp (fun a z => s'.nts z) y
        have ed : xs.drop i = x :: xs.drop (i + 1) := by
          rw [List.drop_eq_getElem_cons hlt]
          congr 1
          exact Option.some.inj ((List.getElem?_eq_getElem hlt).symm.trans hxx)
        rw [ed] at q'
        have x2 : Ext μ' H' μ' H2 ∧ Rl X.K cl (Wa W D) ω μ' S' env1 (wipe σ vs) H2 := by
          rcases hH with z | ⟨T, o, hT, z⟩
          · rw [z]; exact ⟨Ext.refl, r1⟩
          · rw [z]; exact ⟨Ext.fresh hT, r1.fresh hT⟩
        unfold compL at q'
        cases ef : f x env1 with
        | none => rw [ef] at q'; exact q'.elim
        | some env2 =>
          rw [ef] at q'
          dsimp only at q'
          refine hg (Wa W D) ω μ' S' env1 env2 (wipe σ vs) H2 x v _ x2.2 rv ef fun ω2 σ2 t => ⟨(t.wp vs hx).trans (wipe_wipe σ vs), ht _ _ _ ⟨Wa W D, ω2, μ', S', env2, t.rl, ?_⟩⟩
          have eω : ω2 = ω := t.same fun j hj a z => by
            have hl2 := (List.getElem?_eq_some_iff.mp z).1
            have hl3 : j < env.length := by rw [rl.l1, ← rl.l2]; exact hl2
            obtain ⟨o', s2, g1, g2, g3⟩ := r1.slot ((wipeE_un hwp).2 j (hx j hj) hl3)
            rw [z] at g1
            cases g1
            cases g3
          have rt := t.rl
          rw [eω] at rt
          rw [eω]
          have e2 : Ext μ1 H1 μ' H2 := e'.trans x2.1
          have hD2 : H2 D = some (.lst accV) := x2.1.keep D _ hDv fun z => s'.dis D z (.inl (.inr rfl))
          have racc2 := racc.mono x2.1.kp
          revert q'
          generalize ett : tt env2 S' = r
          intro q'
          cases r with
          | bad => exact q'.elim
          | exc c ns ys S2 => exact q'.elim
          | ok k S2 =>
            intro μ3 H3 s3 e3
            have hD3 : H3 D = some (.lst accV) := e3.keep D _ hD2 fun z => rt.sim.dis D z (.inl (.inr rfl))
            have racc3 := racc2.mono e3.kp
            cases k with
            | false => exact ⟨μ3, S2, acc, accV, s3, e2.trans e3, hD3, racc3, Nat.le_succ_of_le hacc, q'⟩
            | true =>
              refine iteT (he _ _ _ ⟨Wa W D, ω, μ3, S2, env2, rt.ext e3 s3, ?_⟩)
              have q4 : SatG X.K cl (Wo W ω) μ1 H1 ((te env2 S2).nox.bind fun y S2 => (compL f tt te env1 (xs.drop (i + 1)) S2).bind fun ys S3 => .ok (y :: ys) S3) _ E := q'
              revert q4
              generalize te env2 S2 = r2
              intro q4
              cases r2 with
              | bad => exact q4.elim
              | exc c ns ys S3 => exact q4.elim
              | ok y S3 =>
                intro μ4 H4 s4 e4 v4 r4
                have hD4 : H4 D = some (.lst accV) := e4.keep D _ hD3 fun z => s3.dis D z (.inl (.inr rfl))
                have racc4 := racc3.mono e4.kp
                have hlen : accV.length < sizeLine := by
                  have z1 := racc4.length
                  have z2 := io.len
                  omega
                obtain ⟨s5, kp5⟩ := s4.updW (D := D) (o := .lst (accV ++ [v4])) (.inl (.inr rfl))
                have e5 : Ext μ1 H1 μ4 (upd H4 D (.lst (accV ++ [v4]))) := by
                  have e14 := (e2.trans e3).trans e4
                  refine ⟨fun b o h n => ?_, fun b h => ?_, e14.pre, e14.new⟩
                  · rw [upd_ne (ne_of_none h hD)]; exact e14.keep b o h n
                  · unfold upd
                    split
                    · simp
                    · exact e14.dom b h
                refine ⟨accV, hD4, hlen, μ4, S3, acc ++ [y], accV ++ [v4], s5, e5, upd_same, (racc4.snoc r4).mono kp5, by simp; omega, ?_⟩
                have q5 : SatG X.K cl (Wo W ω) μ1 H1 ((compL f tt te env1 (xs.drop (i + 1)) S3).bind fun ys S3 => .ok (y :: ys) S3) _ E := q4
                refine q5.bind.mono fun ys S6 μ6 H6 _ s6 e6 q6 a ha sb at_ => ?_
                exact q6 μ6 H6 s6 Ext.refl a ha sb (by simpa using at_)
      · have ei : i = xs.length := by omega
        subst ei
        rw [List.drop_length] at q'
        refine .inl ⟨io.stop H' std, ?_⟩
        have sb := cvt s'
        have q3 := q' μ' H' (s'.weak fun a z => z.elim (fun z => .inl (.inl z)) .inr) e' D (fresh_back e1 hD) sb
        refine q3 ?_
        rw [List.append_nil]
        exact .lst hDv (racc.mono (Kp.weak fun a z => (wo_wa a).mp z))
end
end Dm

set_option Elab.async false
set_option linter.all false
set_option maxRecDepth 100000
set_option autoImplicit false
set_option maxHeartbeats 1000000
/-! Dm8: comprehensions as expressions; what is walked; while. -/
namespace Dm
open PySem PySem.Spec L2
section
variable {X : Cx} {cl : Cl} {E : XK} {e : Expr} {pos : Pos} {g : TG} {f : TF} {ix : List Nat} {im : IM} {tt : TM} {te m m1 m2 : EM}
theorem t_dn {K : PySem.W.Frag} {σ : St} {H : Hp} {Q : VK} (h : tD K cl E m σ H Q) : tN K cl E m σ H Q := by
  obtain ⟨W, ω, μ, S, env, r, q⟩ := h
  exact ⟨W, ω, μ, S, env, r, q.mono fun x S' μ' H' _ s _ k a ha sb at_ => k (.ref a) ((at_.mono (Kp.weak fun _ z => .inl z) fun _ q => q).rep fun z => z.elim (fun z => sb.dis a z (.inr rfl)) fun z => r.sim.trk a z ha)⟩
theorem t_ld {K : PySem.W.Frag} {σ : St} {H : Hp} {Q : VK} (h : tL K cl E m σ H Q) : tD K cl E m σ H Q := by
  obtain ⟨W, ω, μ, S, env, r, q⟩ := h
  exact ⟨W, ω, μ, S, env, r, q.mono fun x S' μ' H' _ _ _ k v rv => k v (.inl rv)⟩
theorem yes_t {K : PySem.W.Frag} {σ : St} {H : Hp} {Q : Bool → Hp → Prop} (h : tDT K cl E yesT σ H Q) : tYes σ H Q := by
  obtain ⟨W, ω, μ, S, env, r, q⟩ := h
  exact q μ H r.sim Ext.refl
theorem dn_lc {elt tg iter : Expr} {ifs : List Expr} {scope : Scope} {own : List (Str × Nat)} {gtt : TT} (hc : X.calm = true) (hN : X.N.Nodup) (hi : PI X tg iter (tI false X.K cl E im)) (ok : BlkOk X.N X.env.scope scope own)
    (hg : ∀ (s : Shared) (H : Hp) (C : Addr) (l : List (Str × Addr)) (fp : List Addr), PG (X.blk s H scope (compEnvC scope l C X.env) fp) tg g) (ho : TgOk X.K cl g f ix)
    (ht : ∀ (s : Shared) (H : Hp) (C : Addr) (l : List (Str × Addr)) (fp : List Addr), PTs (X.blk s H scope (compEnvC scope l C X.env) fp) ifs gtt) (htt : ∀ σ H Q, tDT X.K cl E0 tt σ H Q → gtt σ H Q)
    (he : ∀ (s : Shared) (H : Hp) (C : Addr) (l : List (Str × Addr)) (fp : List Addr), PE (X.blk s H scope (compEnvC scope l C X.env) fp) elt (tD X.K cl E0 te)) (hx : ∀ i ∈ ix, i ∈ own.map (·.2) := by decide) (hs : ∀ x, foldedSetIterable iter X.env x = pure x := by intro _; rfl) :
    PE X (.ListComp elt [⟨tg, iter, ifs, 0⟩] scope pos) (tN X.K cl E (compM im (own.map (·.2)) f tt te)) :=
  (pe_lc hc hN hi ok hg ht he hs).imp fun _ _ _ h => comp_t ho hx htt (fun _ _ _ z => z) (fun _ _ _ z => z) h
/-- y = [..] on one line -/
theorem lc_set {i : Nat} {y : Str} {py spos : Pos} {elt tg iter : Expr} {ifs : List Expr} {scope : Scope} {own : List (Str × Nat)} {gtt : TT} (hc : X.calm = true) (hN : X.N.Nodup) (hy : X.N[i]? = some y) (hyl : X.env.scope.names.lookup y = some .local)
    (hsw : swapsWith (.ListComp elt [⟨tg, iter, ifs, 0⟩] scope pos) (some (.Name y py)) spos.line X.env = pure true) (hi : PI X tg iter (tI false X.K cl E im)) (ok : BlkOk X.N X.env.scope scope own)
    (hg : ∀ (s : Shared) (H : Hp) (C : Addr) (l : List (Str × Addr)) (fp : List Addr), PG (X.blk s H scope (compEnvC scope l C X.env) fp) tg g) (ho : TgOk X.K cl g f ix)
    (ht : ∀ (s : Shared) (H : Hp) (C : Addr) (l : List (Str × Addr)) (fp : List Addr), PTs (X.blk s H scope (compEnvC scope l C X.env) fp) ifs gtt) (htt : ∀ σ H Q, tDT X.K cl E0 tt σ H Q → gtt σ H Q)
    (he : ∀ (s : Shared) (H : Hp) (C : Addr) (l : List (Str × Addr)) (fp : List Addr), PE (X.blk s H scope (compEnvC scope l C X.env) fp) elt (tD X.K cl E0 te)) (hx : ∀ i ∈ ix, i ∈ own.map (·.2) := by decide) (hs : ∀ x, foldedSetIterable iter X.env x = pure x := by intro _; rfl) :
    PS X (.Assign [.Name y py] (.ListComp elt [⟨tg, iter, ifs, 0⟩] scope pos) spos) (tAsg (tN X.K cl E (compM im (own.map (·.2)) f tt te)) (gName i)) :=
  (ps_setLc hc hN hy hyl hsw hi ok hg ht he hs).imp fun D σ H h => comp_t ho hx htt (fun _ _ _ z => z) (fun _ _ _ z => z) h
theorem satOk {α : Type} {K : PySem.W.Frag} {W : Addr → Prop} {μ : List Addr} {H : Hp} {r : Res α} {a : α} {S : Sto} {P : α → Sto → List Addr → Hp → Prop} (he : r = .ok a S) (h : ∀ μ' H', Sim K cl W μ' S H' → Ext μ H μ' H' → P a S μ' H') : SatG K cl W μ H r P E := by
  rw [he]
  exact h
/-! ### a list or a tuple -/
def seqOf : Vl → Option (List Vl)
  | .lst xs => some xs
  | .tup xs => some xs
  | .ftp xs => some xs
  | _ => none
def seqI (m : EM) : IM := fun env S => (m env S).bind fun x S1 => match seqOf x with
  | some xs => .ok xs S1
  | none => .bad
theorem seq_rep {K : PySem.W.Frag} {W : Addr → Prop} {ω : List (Option Addr)} {μ : List Addr} {S : Sto} {H : Hp} {x : Vl} {v : V} {xs : List Vl} (s : Sim K cl (Wo W ω) μ S H) (r : RepL K cl W ω μ H x v) (h : seqOf x = some xs) :
    ∃ (k : Bool) (a : Addr) (vs : List V), v = .ref a ∧ Rd H a (if k then .tup vs else .lst vs) ∧ a ∉ μ ∧ Reps K cl (Bn (Wo W ω) μ) μ H xs vs := by
  rcases r with r | ⟨a, e1, e2, r⟩
  · cases r with
    | tup h1 h2 h3 => cases h; exact ⟨true, _, _, rfl, .inl h1, fun z => h2 (.inl z), h3⟩
    | ftp h1 h0 h2 h3 => cases h; exact ⟨true, _, _, rfl, .inr ⟨_, h1⟩, fun z => h2 (.inl z), h3⟩
    | lst h1 h2 h3 => cases h; exact ⟨false, _, _, rfl, .inl h1, fun z => h2 (.inl z), h3⟩
    | _ => cases h
  · cases r with
    | lst h1 h2 => cases h; exact ⟨false, a, _, e1, .inl h1, fun z => s.dis a z (.inr e2), h2⟩
    | _ => cases h
theorem seq_repS {K : PySem.W.Frag} {B : Addr → Prop} {μ : List Addr} {H : Hp} {x : Vl} {v : V} {xs : List Vl} (r : Rep K cl B μ H x v) (h : seqOf x = some xs) :
    ∃ (k : Bool) (a : Addr) (vs : List V), v = .ref a ∧ Rd H a (if k then .tup vs else .lst vs) ∧ ¬ B a ∧ Reps K cl B μ H xs vs := by
  cases r with
  | tup h1 h2 h3 => cases h; exact ⟨true, _, _, rfl, .inl h1, h2, h3⟩
  | ftp h1 h0 h2 h3 => cases h; exact ⟨true, _, _, rfl, .inr ⟨_, h1⟩, h2, h3⟩
  | lst h1 h2 h3 => cases h; exact ⟨false, _, _, rfl, .inl h1, h2, h3⟩
  | _ => cases h
theorem sqk_of {K : PySem.W.Frag} {H : Hp} {a : Addr} {vs : List V} {k : Bool} (h : Rd H a (if k then .tup vs else .lst vs)) : SqK k K H a vs := by
  cases k with
  | false => exact .inl h
  | true => exact .inl h
theorem rd_kk {H H' : Hp} {N : Addr → Prop} {a : Addr} {u : HO} (kk : ∀ a o, H a = some o → ¬ N a → H' a = some o) (h : Rd H a u) (n : ¬ N a) : Rd H' a u := h.imp (fun h => kk a _ h n) fun ⟨o, h⟩ => ⟨o, kk a _ h n⟩
theorem len_of {H : Hp} {a : Addr} {vs : List V} {k : Bool} (l : LenOk H) (h : Rd H a (if k then .tup vs else .lst vs)) : vs.length ≤ sizeLine := by
  cases k with
  | false => exact l a vs (.inl h)
  | true => exact l a vs (.inr h)
theorem it_list {K : PySem.W.Frag} {N B : Addr → Prop} {μ : List Addr} {H : Hp} {a : Addr} {vs : List V} {xs : List Vl} (l : LenOk H) (h : H a = some (.lst vs)) (n : ¬ N a) (r : Reps K cl B μ H xs vs) : ItOk K cl (Itl K a) N B μ H xs := by
  have hl := r.length
  refine ⟨by rw [hl]; exact l a vs (.inl (.inl h)), fun i H' hi k => ⟨vs, vs[i]'(by omega), SqL.of (k a _ h n), by simp [show i < vs.length by omega]⟩, fun H' k => ⟨vs, SqL.of (k a _ h n), by omega⟩, fun i H' v H2 B' μ' hi k kp _ y => ?_⟩
  obtain ⟨e1, e2⟩ := y
  have hv := e2 vs (SqL.of (k a _ h n))
  obtain ⟨x, hx, rx⟩ := r.get' hv
  exact ⟨x, hx, by rw [e1]; exact rx.mono kp, .inl e1⟩
theorem it_tup {K : PySem.W.Frag} {N B : Addr → Prop} {μ : List Addr} {H : Hp} {a : Addr} {vs : List V} {xs : List Vl} (l : LenOk H) (h : Rd H a (.tup vs)) (n : ¬ N a) (r : Reps K cl B μ H xs vs) : ItOk K cl (Itt K a) N B μ H xs := by
  have hl := r.length
  refine ⟨by rw [hl]; exact l a vs (.inr h), fun i H' hi k => ⟨vs, vs[i]'(by omega), .inl (rd_kk k h n), by simp [show i < vs.length by omega]⟩, fun H' k => ⟨vs, .inl (rd_kk k h n), by omega⟩, fun i H' v H2 B' μ' hi k kp _ y => ?_⟩
  obtain ⟨e1, e2⟩ := y
  have hv := e2 vs (.inl (rd_kk k h n))
  obtain ⟨x, hx, rx⟩ := r.get' hv
  exact ⟨x, hx, by rw [e1]; exact rx.mono kp, .inl e1⟩
theorem di_seqL {tg : Expr} (h : PE X e (tL X.K cl E m)) : PI X tg e (tI false X.K cl E (seqI m)) :=
  (pi_or (pi_len (pi_list h)) (pi_len (pi_tup h))).imp fun σ H R ⟨W, ω, μ, S, env, rl, q⟩ => by
    have q2 := q.bind
    revert q2
    generalize he : m env S = r
    intro q2
    cases r with
    | bad => exact q2.elim
    | exc c ns xs S' => exact .inl ⟨W, ω, μ, S, env, rl, by rw [he]; exact q2⟩
    | ok x S1 =>
      cases hs : seqOf x with
      | none =>
        refine .inl ⟨W, ω, μ, S, env, rl, satOk he fun μ1 H1 s1 e1 v rv => ?_⟩
        have q3 := q2 μ1 H1 s1 e1
        dsimp only at q3
        rw [hs] at q3
        exact q3.elim
      | some xs =>
        have main : ∀ μ1 H1, Sim X.K cl (Wo W ω) μ1 S1 H1 → Ext μ H μ1 H1 → ∀ J, ItOk X.K cl J (Nn false ω μ1) (Bn (Wo W ω) μ1) μ1 H1 xs → R J H1 := fun μ1 H1 s1 e1 J io => by
          have q3 := q2 μ1 H1 s1 e1
          dsimp only at q3
          rw [hs] at q3
          exact q3 μ1 H1 s1 Ext.refl J io
        cases x with
        | lst ys =>
          cases hs
          refine .inl ⟨W, ω, μ, S, env, rl, satOk he fun μ1 H1 s1 e1 v rv => ?_⟩
          have h1' : ∃ a vs, v = .ref a ∧ H1 a = some (.lst vs) ∧ a ∉ μ1 ∧ Reps X.K cl (Bn (Wo W ω) μ1) μ1 H1 xs vs := by
            rcases rv with rv | ⟨a', e3, e4, rv⟩
            · cases rv with
              | lst g1 g0 g2 => exact ⟨_, _, rfl, g1, fun z => g0 (.inl z), g2⟩
            · cases e3
              cases rv with
              | lst g1 g2 => exact ⟨_, _, rfl, g1, fun z => s1.dis _ z (.inr e4), g2⟩
          obtain ⟨a, vs, rfl, h1', h2, h3⟩ := h1'
          exact ⟨a, rfl, ⟨vs, SqL.of h1'⟩, fun l => main μ1 H1 s1 e1 _ (it_list l h1' (fun z => z.elim h2 fun z => nomatch z.1) h3)⟩
        | tup ys =>
          cases hs
          refine .inr ⟨W, ω, μ, S, env, rl, satOk he fun μ1 H1 s1 e1 v rv => ?_⟩
          rcases rv with rv | ⟨a', e3, _, rv⟩
          · cases rv with
            | tup g1 g2 g3 => exact ⟨_, rfl, ⟨_, SqT.of g1⟩, fun l => main μ1 H1 s1 e1 _ (it_tup l (.inl g1) (fun z => z.elim (fun z => g2 (.inl z)) fun z => nomatch z.1) g3)⟩
          · cases rv
        | ftp ys =>
          cases hs
          refine .inr ⟨W, ω, μ, S, env, rl, satOk he fun μ1 H1 s1 e1 v rv => ?_⟩
          rcases rv with rv | ⟨a', e3, _, rv⟩
          · cases rv with
            | ftp g1 g0 g2 g3 => exact ⟨_, rfl, ⟨_, .inl (.inr ⟨_, g1⟩)⟩, fun l => main μ1 H1 s1 e1 _ (it_tup l (.inr ⟨_, g1⟩) (fun z => z.elim (fun z => g2 (.inl z)) fun z => nomatch z.1) g3)⟩
          · cases rv
        | _ => cases hs
theorem di_seq {tg : Expr} (h : PE X e (tD X.K cl E m)) : PI X tg e (tI true X.K cl E (seqI m)) :=
  (pi_or (pi_len (pi_list h)) (pi_len (pi_tup h))).imp fun σ H R ⟨W, ω, μ, S, env, rl, q⟩ => by
    have q2 := q.bind
    revert q2
    generalize he : m env S = r
    intro q2
    cases r with
    | bad => exact q2.elim
    | exc c ns xs S' => exact .inl ⟨W, ω, μ, S, env, rl, by rw [he]; exact q2⟩
    | ok x S1 =>
      cases hs : seqOf x with
      | none =>
        refine .inl ⟨W, ω, μ, S, env, rl, satOk he fun μ1 H1 s1 e1 v rv => ?_⟩
        have q3 := q2 μ1 H1 s1 e1
        dsimp only at q3
        rw [hs] at q3
        exact q3.elim
      | some xs =>
        have main : ∀ μ1 H1, Sim X.K cl (Wo W ω) μ1 S1 H1 → Ext μ H μ1 H1 → ∀ J, ItOk X.K cl J (Nn true ω μ1) (Bn (Wo W ω) μ1) μ1 H1 xs → R J H1 := fun μ1 H1 s1 e1 J io => by
          have q3 := q2 μ1 H1 s1 e1
          dsimp only at q3
          rw [hs] at q3
          exact q3 μ1 H1 s1 Ext.refl J io
        have nb : ∀ {μ1 : List Addr} {a : Addr}, ¬ Bn (Wo W ω) μ1 a → ¬ Nn true ω μ1 a := fun n z => z.elim (fun z => n (.inl z)) fun z => n (.inr (.inr z.2))
        cases x with
        | lst ys =>
          cases hs
          refine .inl ⟨W, ω, μ, S, env, rl, satOk he fun μ1 H1 s1 e1 v rv => ?_⟩
          cases rv with
          | lst g1 g2 g3 => exact ⟨_, rfl, ⟨_, SqL.of g1⟩, fun l => main μ1 H1 s1 e1 _ (it_list l g1 (nb g2) g3)⟩
        | tup ys =>
          cases hs
          refine .inr ⟨W, ω, μ, S, env, rl, satOk he fun μ1 H1 s1 e1 v rv => ?_⟩
          cases rv with
          | tup g1 g2 g3 => exact ⟨_, rfl, ⟨_, SqT.of g1⟩, fun l => main μ1 H1 s1 e1 _ (it_tup l (.inl g1) (nb g2) g3)⟩
        | ftp ys =>
          cases hs
          refine .inr ⟨W, ω, μ, S, env, rl, satOk he fun μ1 H1 s1 e1 v rv => ?_⟩
          cases rv with
          | ftp g1 g0 g2 g3 => exact ⟨_, rfl, ⟨_, .inl (.inr ⟨_, g1⟩)⟩, fun l => main μ1 H1 s1 e1 _ (it_tup l (.inr ⟨_, g1⟩) (nb g2) g3)⟩
        | _ => cases hs
/-! ### ranges -/
def rgI (lo : Int) (n : Nat) : List Vl := (List.range n).map fun (k : Nat) => Vl.int (lo + k)
theorem rgI_length (lo : Int) (n : Nat) : (rgI lo n).length = n := by simp [rgI]
theorem rgI_get {lo : Int} {n i : Nat} (h : i < n) : (rgI lo n)[i]? = some (.int (lo + i)) := by simp [rgI, h]
/-- range(..), by its arguments -/
def rngI (a : AM) : IM := fun env S => (a env S).bind fun xs S1 => match xs with
  | [.int j] => if -(2 ^ 62) ≤ j ∧ j ≤ 16777216 then .ok (rgI 0 j.toNat) S1 else .bad
  | [.int i, .int j] => if (-(2 ^ 62) ≤ i ∧ i < 2 ^ 62 ∧ -(2 ^ 62) ≤ j ∧ j < 2 ^ 62) ∧ j - i ≤ 16777216 then .ok (rgI i (j - i).toNat) S1 else .bad
  | _ => .bad
theorem it_range {K : PySem.W.Frag} {N B : Addr → Prop} {μ : List Addr} {H : Hp} {lo : Int} {n : Nat} (h : n ≤ 16777216) : ItOk K cl (Itr lo n) N B μ H (rgI lo n) := by
  refine ⟨by rw [rgI_length, sizeLine_eq]; exact h, fun i H' hi k => by rw [rgI_length] at hi; exact hi, fun H' k => by rw [rgI_length]; exact Nat.le_refl _, fun i H' v H2 B' μ' hi k kp _ y => ?_⟩
  obtain ⟨e1, e2⟩ := y
  rw [rgI_length] at hi
  exact ⟨_, rgI_get hi, by rw [e2]; exact .int _, .inl e1⟩
variable {mA : AM}
theorem di_rng1 {st : Bool} {tg a : Expr} {p : Pos} (hg : Gl X "range") (hm : X.mg "range" = none) (ha : PA X [a] (tDA X.K cl E mA)) (hn : LenA mA 1) (hs : starEach [a] X.env = [(false, eval a X.env)] := by rfl) : PI X tg (.Call (.Name "range" p) [a] [] pos) (tI st X.K cl E (rngI mA)) :=
  (pi_range1 hg hm ha hs).imp fun σ H R ⟨W, ω, μ, S, env, rl, q⟩ => ⟨W, ω, μ, S, env, rl, q.bind.mono fun xs S1 μ1 H1 ee s1 e1 q1 vs rs => by
    have hl := hn _ _ _ _ ee
    match xs, hl, rs, q1 with
    | [x], _, .cons r .nil, q1 =>
      cases x with
      | int j =>
        dsimp only at q1
        split at q1
        · rename_i hb
          cases r
          exact ⟨j, rfl, hb.1, by have := hb.2; omega, q1 μ1 H1 s1 Ext.refl _ (it_range (by have := hb.2; omega))⟩
        · exact q1.elim
      | _ => exact q1.elim⟩
theorem di_rng2 {st : Bool} {tg a b : Expr} {p : Pos} (hg : Gl X "range") (hm : X.mg "range" = none) (ha : PA X [a, b] (tDA X.K cl E mA)) (hn : LenA mA 2) (hs : starEach [a, b] X.env = [(false, eval a X.env), (false, eval b X.env)] := by rfl) (hs2 : starEach [b] X.env = [(false, eval b X.env)] := by rfl) : PI X tg (.Call (.Name "range" p) [a, b] [] pos) (tI st X.K cl E (rngI mA)) :=
  (pi_range2 hg hm ha hs hs2).imp fun σ H R ⟨W, ω, μ, S, env, rl, q⟩ => ⟨W, ω, μ, S, env, rl, q.bind.mono fun xs S1 μ1 H1 ee s1 e1 q1 vs rs => by
    have hl := hn _ _ _ _ ee
    match xs, hl, rs, q1 with
    | [x, y], _, .cons r (.cons r2 .nil), q1 =>
      cases x with
      | int i =>
        cases y with
        | int j =>
          dsimp only at q1
          split at q1
          · rename_i hb
            cases r
            cases r2
            exact ⟨i, j, rfl, hb.1, q1 μ1 H1 s1 Ext.refl _ (it_range (by have := hb.2; omega))⟩
          · exact q1.elim
        | _ => exact q1.elim
      | _ => exact q1.elim⟩
/-! ### enumerate, zip -/
def enL (xs : List Vl) : List Vl := (List.range xs.length).zipWith (fun (i : Nat) x => .tup [.int i, x]) xs
def zpL (xs ys : List Vl) : List Vl := xs.zipWith (fun x y => .tup [x, y]) ys
def enI (a : AM) : IM := fun env S => (a env S).bind fun xs S1 => match xs with
  | [x] => (match seqOf x with | some ys => .ok (enL ys) S1 | none => .bad)
  | _ => .bad
def zpI (a : AM) : IM := fun env S => (a env S).bind fun xs S1 => match xs with
  | [x, y] => (match seqOf x, seqOf y with | some ys, some zs => .ok (zpL ys zs) S1 | _, _ => .bad)
  | _ => .bad
theorem enL_length (xs : List Vl) : (enL xs).length = xs.length := by simp [enL]
theorem enL_get {xs : List Vl} {i : Nat} {x : Vl} (h : xs[i]? = some x) : (enL xs)[i]? = some (.tup [.int (i : Nat), x]) := by
  obtain ⟨hl, he⟩ := List.getElem?_eq_some_iff.mp h
  simp [enL, List.getElem?_zipWith, hl, he]
theorem zpL_length (xs ys : List Vl) : (zpL xs ys).length = min xs.length ys.length := by simp [zpL]
theorem zpL_get {xs ys : List Vl} {i : Nat} {x y : Vl} (h : xs[i]? = some x) (h2 : ys[i]? = some y) : (zpL xs ys)[i]? = some (.tup [x, y]) := by simp [zpL, List.getElem?_zipWith, h, h2]
theorem kp_new {B' : Addr → Prop} {μ' : List Addr} {H' : Hp} {T : Addr} {o : HO} (hT : H' T = none) : Kp B' B' μ' μ' H' (upd H' T o) := ⟨fun b u q n => ⟨by rw [upd_ne (ne_of_none q hT)]; exact q, n⟩, fun _ _ q => q⟩
theorem it_en {K : PySem.W.Frag} {N B : Addr → Prop} {μ : List Addr} {H : Hp} {a : Addr} {vs : List V} {xs : List Vl} {k : Bool} (l : LenOk H) (h : Rd H a (if k then .tup vs else .lst vs)) (n : ¬ N a) (r : Reps K cl B μ H xs vs) : ItOk K cl (JEn k K a vs) N B μ H (enL xs) := by
  have hl := r.length
  refine ⟨by rw [enL_length, hl]; exact len_of l h, fun i H' hi kk => ⟨by rw [enL_length] at hi; omega, sqk_of (rd_kk kk h n)⟩, fun H' kk => ⟨by rw [enL_length]; exact hl.symm, sqk_of (rd_kk kk h n)⟩, fun i H' v H2 B' μ' hi kk kp bt y => ?_⟩
  obtain ⟨T, w, e1, e2, e3, e4⟩ := y
  obtain ⟨x, hx, rx⟩ := r.get' e4
  have kt := kp_new (B' := B') (μ' := μ') (o := .tup [.int (i : Nat), w]) e2
  refine ⟨_, enL_get hx, ?_, .inr ⟨T, _, e2, e3⟩⟩
  rw [e1, e3]
  exact .tup upd_same (fun z => (bt T z).ne e2) (.cons (.int _) (.cons ((rx.mono kp).mono kt) .nil))
theorem it_zp {K : PySem.W.Frag} {N B : Addr → Prop} {μ : List Addr} {H : Hp} {a b : Addr} {vs us : List V} {xs ys : List Vl} {k k2 : Bool} (l : LenOk H) (h : Rd H a (if k then .tup vs else .lst vs)) (h2 : Rd H b (if k2 then .tup us else .lst us)) (n : ¬ N a) (n2 : ¬ N b) (r : Reps K cl B μ H xs vs) (r2 : Reps K cl B μ H ys us) : ItOk K cl (JZp k k2 K a b vs us) N B μ H (zpL xs ys) := by
  have hl := r.length
  have hl2 := r2.length
  refine ⟨?_, fun i H' hi kk => ⟨by rw [zpL_length] at hi; omega, sqk_of (rd_kk kk h n), sqk_of (rd_kk kk h2 n2)⟩, fun H' kk => ⟨by rw [zpL_length]; omega, sqk_of (rd_kk kk h n), sqk_of (rd_kk kk h2 n2)⟩, fun i H' v H2 B' μ' hi kk kp bt y => ?_⟩
  · rw [zpL_length]
    have := len_of l h
    omega
  · obtain ⟨T, w, w2, e1, e2, e3, e4, e5⟩ := y
    obtain ⟨x, hx, rx⟩ := r.get' e4
    obtain ⟨y, hy, ry⟩ := r2.get' e5
    have kt := kp_new (B' := B') (μ' := μ') (o := .tup [w, w2]) e2
    refine ⟨_, zpL_get hx hy, ?_, .inr ⟨T, _, e2, e3⟩⟩
    rw [e1, e3]
    exact .tup upd_same (fun z => (bt T z).ne e2) (.cons ((rx.mono kp).mono kt) (.cons ((ry.mono kp).mono kt) .nil))
theorem di_en {elts : List Expr} {kk : Nat} {tpos p : Pos} {a : Expr} (hg : Gl X "enumerate") (hm : X.mg "enumerate" = none) (ha : PA X [a] (tDA X.K cl E mA)) (hs : starEach [a] X.env = [(false, eval a X.env)] := by rfl) : PI X (.Tuple elts kk tpos) (.Call (.Name "enumerate" p) [a] [] pos) (tI true X.K cl E (enI mA)) :=
  (pi_en hg hm ha hs).imp fun σ H R ⟨W, ω, μ, S, env, rl, q⟩ => ⟨W, ω, μ, S, env, rl, q.bind.mono fun xs S1 μ1 H1 ee s1 e1 q1 vs rs => by
    match xs, rs, q1 with
    | [x], .cons r .nil, q1 =>
      dsimp only at q1
      cases hx : seqOf x with
      | none => rw [hx] at q1; exact q1.elim
      | some ys =>
        rw [hx] at q1
        obtain ⟨k, a, us, rfl, h1, h2, h3⟩ := seq_repS r hx
        exact ⟨k, a, us, rfl, sqk_of h1, fun l => q1 μ1 H1 s1 Ext.refl _ (it_en l h1 (fun z => z.elim (fun z => h2 (.inl z)) fun z => h2 (.inr (.inr z.2))) h3)⟩⟩
theorem di_enL {elts : List Expr} {kk : Nat} {tpos p : Pos} {a : Expr} (hg : Gl X "enumerate") (hm : X.mg "enumerate" = none) (ha : PA X [a] (tLA X.K cl E mA)) (hs : starEach [a] X.env = [(false, eval a X.env)] := by rfl) : PI X (.Tuple elts kk tpos) (.Call (.Name "enumerate" p) [a] [] pos) (tI false X.K cl E (enI mA)) :=
  (pi_en hg hm ha hs).imp fun σ H R ⟨W, ω, μ, S, env, rl, q⟩ => ⟨W, ω, μ, S, env, rl, q.bind.mono fun xs S1 μ1 H1 ee s1 e1 q1 vs rs => by
    match xs, rs, q1 with
    | [x], .cons r .nil, q1 =>
      dsimp only at q1
      cases hx : seqOf x with
      | none => rw [hx] at q1; exact q1.elim
      | some ys =>
        rw [hx] at q1
        obtain ⟨k, a, us, rfl, h1, h2, h3⟩ := seq_rep s1 r hx
        exact ⟨k, a, us, rfl, sqk_of h1, fun l => q1 μ1 H1 s1 Ext.refl _ (it_en l h1 (fun z => z.elim h2 fun z => nomatch z.1) h3)⟩⟩
theorem di_zp {elts : List Expr} {kk : Nat} {tpos p : Pos} {a b : Expr} (hg : Gl X "zip") (hm : X.mg "zip" = none) (ha : PA X [a, b] (tDA X.K cl E mA)) (hs : starEach [a, b] X.env = (false, eval a X.env) :: starEach [b] X.env := by rfl) (hpl : (backTo pos (starEach [b] X.env)).any (·.1) = false := by rfl) :
    PI X (.Tuple elts kk tpos) (.Call (.Name "zip" p) [a, b] [] pos) (tI true X.K cl E (zpI mA)) :=
  (pi_zp hg hm ha hs hpl).imp fun σ H R ⟨W, ω, μ, S, env, rl, q⟩ => ⟨W, ω, μ, S, env, rl, q.bind.mono fun xs S1 μ1 H1 ee s1 e1 q1 vs rs => by
    match xs, rs, q1 with
    | [x, y], .cons r (.cons r2 .nil), q1 =>
      dsimp only at q1
      cases hx : seqOf x with
      | none => rw [hx] at q1; exact q1.elim
      | some ys =>
        cases hy : seqOf y with
        | none => rw [hx, hy] at q1; exact q1.elim
        | some zs =>
          rw [hx, hy] at q1
          obtain ⟨k, a, us, rfl, h1, h2, h3⟩ := seq_repS r hx
          obtain ⟨k2, b, ws, rfl, g1, g2, g3⟩ := seq_repS r2 hy
          exact ⟨k, k2, a, b, us, ws, rfl, sqk_of h1, sqk_of g1, fun l => q1 μ1 H1 s1 Ext.refl _ (it_zp l h1 g1 (fun z => z.elim (fun z => h2 (.inl z)) fun z => h2 (.inr (.inr z.2))) (fun z => z.elim (fun z => g2 (.inl z)) fun z => g2 (.inr (.inr z.2))) h3 g3)⟩⟩
theorem di_zpL {elts : List Expr} {kk : Nat} {tpos p : Pos} {a b : Expr} (hg : Gl X "zip") (hm : X.mg "zip" = none) (ha : PA X [a, b] (tLA X.K cl E mA)) (hs : starEach [a, b] X.env = (false, eval a X.env) :: starEach [b] X.env := by rfl) (hpl : (backTo pos (starEach [b] X.env)).any (·.1) = false := by rfl) :
    PI X (.Tuple elts kk tpos) (.Call (.Name "zip" p) [a, b] [] pos) (tI false X.K cl E (zpI mA)) :=
  (pi_zp hg hm ha hs hpl).imp fun σ H R ⟨W, ω, μ, S, env, rl, q⟩ => ⟨W, ω, μ, S, env, rl, q.bind.mono fun xs S1 μ1 H1 ee s1 e1 q1 vs rs => by
    match xs, rs, q1 with
    | [x, y], .cons r (.cons r2 .nil), q1 =>
      dsimp only at q1
      cases hx : seqOf x with
      | none => rw [hx] at q1; exact q1.elim
      | some ys =>
        cases hy : seqOf y with
        | none => rw [hx, hy] at q1; exact q1.elim
        | some zs =>
          rw [hx, hy] at q1
          obtain ⟨k, a, us, rfl, h1, h2, h3⟩ := seq_rep s1 r hx
          obtain ⟨k2, b, ws, rfl, g1, g2, g3⟩ := seq_rep s1 r2 hy
          exact ⟨k, k2, a, b, us, ws, rfl, sqk_of h1, sqk_of g1, fun l => q1 μ1 H1 s1 Ext.refl _ (it_zp l h1 g1 (fun z => z.elim h2 fun z => nomatch z.1) (fun z => z.elim g2 fun z => nomatch z.1) h3 g3)⟩⟩
/-! ### a text -/
def chars (z : Str) : List Vl := z.cps.toList.map fun c => .str ⟨#[c]⟩
def strI (m : EM) : IM := fun env S => (m env S).bind fun x S1 => match x with
  | .str z => if z.cps.size ≤ 16777216 then .ok (chars z) S1 else .bad
  | _ => .bad
theorem it_str {K : PySem.W.Frag} {N B : Addr → Prop} {μ : List Addr} {H : Hp} {z : Str} (h : z.cps.size ≤ 16777216) : ItOk K cl (Its z) N B μ H (chars z) := by
  have hl : (chars z).length = z.cps.size := by simp [chars]
  refine ⟨by rw [hl, sizeLine_eq]; exact h, fun i H' hi k => by rw [hl] at hi; exact hi, fun H' k => by rw [hl]; exact Nat.le_refl _, fun i H' v H2 B' μ' hi k kp _ y => ?_⟩
  obtain ⟨e1, c, e2, e3⟩ := y
  refine ⟨.str ⟨#[c]⟩, ?_, by rw [e3]; exact .str _, .inl e1⟩
  have e4 : z.cps.toList[i]? = some c := by rw [Array.getElem?_toList]; exact e2
  simp [chars, e4]
theorem di_str {st : Bool} {tg : Expr} (h : PE X e (tD X.K cl E m)) : PI X tg e (tI st X.K cl E (strI m)) :=
  (pi_str h).imp fun σ H R ⟨W, ω, μ, S, env, rl, q⟩ => ⟨W, ω, μ, S, env, rl, q.bind.mono fun x S1 μ1 H1 ee s1 e1 q1 v rv => by
    cases x with
    | str z =>
      cases rv
      dsimp only at q1
      split at q1
      · exact ⟨z, rfl, q1 μ1 H1 s1 Ext.refl _ (it_str (by assumption))⟩
      · exact q1.elim
    | _ => exact q1.elim⟩
end
end Dm

set_option Elab.async false
set_option linter.all false
set_option maxRecDepth 100000
set_option autoImplicit false
set_option maxHeartbeats 1000000
/-! Dm9: operators by values. -/
namespace Dm
open PySem PySem.Spec L2
section
variable {K : PySem.W.Frag} {cl : Cl} {W : Addr → Prop} {ω : List (Option Addr)} {μ : List Addr} {S : Sto} {H : Hp} {v : V} {xs : List Vl}
theorem repL_int {i : Int} (r : RepL K cl W ω μ H (.int i) v) : v = .int i := by
  rcases r with r | ⟨a, _, _, r⟩
  · cases r; rfl
  · cases r
theorem repL_str {i : Str} (r : RepL K cl W ω μ H (.str i) v) : v = .str i := by
  rcases r with r | ⟨a, _, _, r⟩
  · cases r; rfl
  · cases r
theorem repL_bl {i : Bool} (r : RepL K cl W ω μ H (.bl i) v) : v = .bl i := by
  rcases r with r | ⟨a, _, _, r⟩
  · cases r; rfl
  · cases r
theorem repL_non (r : RepL K cl W ω μ H .non v) : v = .non := by
  rcases r with r | ⟨a, _, _, r⟩
  · cases r; rfl
  · cases r
theorem repL_lst (r : RepL K cl W ω μ H (.lst xs) v) : ∃ a vs, v = .ref a ∧ H a = some (.lst vs) ∧ Reps K cl (Bn (Wo W ω) μ) μ H xs vs := by
  rcases r with r | ⟨a, e, _, r⟩
  · cases r with
    | lst h1 h2 h3 => exact ⟨_, _, rfl, h1, h3⟩
  · cases r with
    | lst h1 h2 => exact ⟨a, _, e, h1, h2⟩
theorem repL_tup (r : RepL K cl W ω μ H (.tup xs) v) : ∃ a vs, v = .ref a ∧ H a = some (.tup vs) ∧ ¬ Bn (Wo W ω) μ a ∧ Reps K cl (Bn (Wo W ω) μ) μ H xs vs := by
  rcases r with r | ⟨a, e, _, r⟩
  · cases r with
    | tup h1 h2 h3 => exact ⟨_, _, rfl, h1, h2, h3⟩
  · cases r
theorem repL_scr {ns : List Int} (r : RepL K cl W ω μ H (.scr ns) v) : ∃ a, v = .ref a ∧ SqL K H a (ns.map V.int) := by
  rcases r with r | ⟨a, e, _, r⟩
  · cases r with
    | scr h => exact ⟨_, rfl, h.sq⟩
  · cases r
theorem rep_newT {p : Addr} {vs : List V} (s : Sim K cl (Wo W ω) μ S H) (hp : H p = none) (r : Reps K cl (Bn (Wo W ω) μ) μ H xs vs) : Rep K cl (Bn (Wo W ω) μ) μ (upd H p (.tup vs)) (.tup xs) (.ref p) := .tup upd_same (s.free hp) (r.mono (Ext.fresh hp).kp)
theorem rep_newL {p : Addr} {vs : List V} (s : Sim K cl (Wo W ω) μ S H) (hp : H p = none) (r : Reps K cl (Bn (Wo W ω) μ) μ H xs vs) : Rep K cl (Bn (Wo W ω) μ) μ (upd H p (.lst vs)) (.lst xs) (.ref p) := .lst upd_same (s.free hp) (r.mono (Ext.fresh hp).kp)
end
section
variable {X : Cx} {cl : Cl}
/-! ### + - * // % ** << >> & -/
def addF : F2 := fun _ x y => match x, y with
  | .int i, .int j => some (.int (i + j))
  | .str a, .str b => if a.length + b.length ≤ 16777216 then some (.str (a ++ b)) else none
  | .lst xs, .lst ys => if xs.length + ys.length ≤ 16777216 then some (.lst (xs ++ ys)) else none
  | .tup xs, .tup ys => if xs.length + ys.length ≤ 16777216 then some (.tup (xs ++ ys)) else none
  | _, _ => none
def rAddX (K : PySem.W.Frag) : R2 := fun v u H Q => rI0 (fun i j => .int (i + j)) v u H Q ∨ (∃ i j, v = .str i ∧ u = .str j ∧ i.length + j.length ≤ sizeLine ∧ Q (.str (i ++ j)) H) ∨ rCat v u H Q ∨ rCatA K v u H Q
theorem o_add : OpR X (binaryOp .Add) (rAddX X.K) := op_add.or (op_add_str.or (op_cat.or op_catA))
theorem s_add : Op2 X cl (rAddX X.K) addF := fun W ω μ S H x y z v u Q s rx ry h k => by
  unfold addF at h
  split at h
  · cases h
    exact .inl ⟨_, _, repL_int rx, repL_int ry, k H _ s Ext.refl (.int _)⟩
  · split at h
    · cases h
      exact .inr (.inl ⟨_, _, repL_str rx, repL_str ry, by rw [sizeLine_eq]; assumption, k H _ s Ext.refl (.str _)⟩)
    · cases h
  · split at h
    · cases h
      obtain ⟨a, vs, rfl, h1, h2⟩ := repL_lst rx
      obtain ⟨b, us, rfl, g1, g2⟩ := repL_lst ry
      exact .inr (.inr (.inl ⟨a, b, vs, us, rfl, rfl, h1, g1, by rw [sizeLine_eq, ← h2.length, ← g2.length]; assumption, fun p hp => k _ _ (s.fresh hp) (Ext.fresh hp) (rep_newL s hp (h2.append g2))⟩))
    · cases h
  · split at h
    · cases h
      obtain ⟨a, vs, rfl, h1, hb, h2⟩ := repL_tup rx
      obtain ⟨b, us, rfl, g1, gb, g2⟩ := repL_tup ry
      refine .inr (.inr (.inr ⟨a, b, vs, us, rfl, rfl, .of h1, .of g1, by rw [sizeLine_eq, ← h2.length, ← g2.length]; assumption, fun e => ?_, fun e e2 => ?_, fun e e2 p hp => k _ _ (s.fresh hp) (Ext.fresh hp) (rep_newT s hp (h2.append g2))⟩))
      · subst e
        cases h2
        exact k H _ s Ext.refl (.tup g1 gb g2)
      · subst e2
        cases g2
        rw [List.append_nil] at k
        exact k H _ s Ext.refl (.tup h1 hb h2)
    · cases h
  · cases h
/-- list + list, a new list -/
def catF : F2 := fun _ x y => match x, y with
  | .lst xs, .lst ys => if xs.length + ys.length ≤ 16777216 then some (.lst (xs ++ ys)) else none
  | _, _ => none
theorem s_cat : Op2N X cl rCat catF := fun W ω μ S H x y z v u Q s rx ry h k => by
  unfold catF at h
  split at h
  · split at h
    · cases h
      obtain ⟨a, vs, rfl, h1, h2⟩ := repL_lst rx
      obtain ⟨b, us, rfl, g1, g2⟩ := repL_lst ry
      exact ⟨a, b, vs, us, rfl, rfl, h1, g1, by rw [sizeLine_eq, ← h2.length, ← g2.length]; assumption, fun p hp => k p _ hp (.lst (h2.append g2))⟩
    · cases h
  · cases h
/-- script + list -/
def rCatS (K : PySem.W.Frag) : R2 := fun x y H Q => ∃ l b xs zs, x = .ref l ∧ y = .ref b ∧ SqL K H l xs ∧ SqL K H b zs ∧ xs.length + zs.length ≤ sizeLine ∧ ∀ p, H p = none → Q (.ref p) (upd H p (.lst (xs ++ zs)))
theorem op_catS : OpR X (binaryOp .Add) (rCatS X.K) := by
  intro pins s σ H x y v u Q I rx ry h
  obtain ⟨l, b, xs, zs, rfl, rfl, hl, hb, hz, q⟩ := h
  cases rx
  cases ry
  obtain ⟨its, r1, p1, z1⟩ := I.list hl
  obtain ⟨its2, r2, p2, z2⟩ := I.list hb
  obtain ⟨⟨c1, d1, dt1, sl1⟩, n1, e1, hc1, hd1, hdt1⟩ := p1
  obtain ⟨⟨c2, d2, dt2, sl2⟩, n2, e2, hc2, hd2, hdt2⟩ := p2
  simp only at hc1 hd1 hdt1 hc2 hd2 hdt2
  subst hc1 hd1 hdt1 hc2 hd2 hdt2
  have ea : its.toArray ++ its2.toArray = (its ++ its2).toArray := by simp
  have sz : its.toArray.size + its2.toArray.size ≤ sizeLine := by
    have w1 := r1.length
    have w2 := r2.length
    rw [List.size_toArray, List.size_toArray]
    omega
  refine concat_meets ⟨_, e1, rfl⟩ ⟨_, e2, rfl⟩ noFill_list_add seq_list_add PySem.F.slot_list_add PySem.F.entry_list_add (PySem.F.args_list_add_2 _ _)
    (PyProof.Rows.list_addW l b its.toArray its2.toArray n1 n2 none none sl1 sl2 sz) ⟨e1, e2, ?_⟩
  rw [ea]
  exact ⟨.ref _, _, I.lnew (t' := s.toks) (r1.append r2) (by rw [List.length_append]; omega), rfl, q _ I.fresh⟩
def catSF : F2 := fun _ x y => match x, y with
  | .scr ns, .lst ys => if ns.length + ys.length ≤ 16777216 then some (.lst (ns.map Vl.int ++ ys)) else none
  | _, _ => none
theorem reps_ints {K : PySem.W.Frag} {B : Addr → Prop} {μ : List Addr} {H : Hp} : ∀ ns : List Int, Reps K cl B μ H (ns.map Vl.int) (ns.map V.int)
  | [] => .nil
  | n :: ns => .cons (.int n) (reps_ints ns)
theorem s_catS : Op2N X cl (rCatS X.K) catSF := fun W ω μ S H x y z v u Q s rx ry h k => by
  unfold catSF at h
  split at h
  · split at h
    · cases h
      obtain ⟨a, rfl, h1⟩ := repL_scr rx
      obtain ⟨b, us, rfl, g1, g2⟩ := repL_lst ry
      exact ⟨a, b, _, us, rfl, rfl, h1, .of g1, by rw [sizeLine_eq, List.length_map, ← g2.length]; assumption, fun p hp => k p _ hp (.lst ((reps_ints _).append g2))⟩
    · cases h
  · cases h
def mulF : F2 := fun _ x y => match x, y with
  | .int i, .int j => if ((-(2 ^ 64) < i ∧ i < 2 ^ 64) ∨ (-(2 ^ 64) < j ∧ j < 2 ^ 64)) ∨ (i.natAbs < 2 ^ 300 ∧ j.natAbs < 2 ^ 300) then some (.int (i * j)) else none
  | .lst xs, .int k => if (-(2 ^ 63) ≤ k ∧ k < 2 ^ 63) ∧ xs.length * k.toNat ≤ 16777216 then some (.lst (List.replicate k.toNat xs).flatten) else none
  | _, _ => none
def rMulX : R2 := fun v u H Q => rI CMul (fun i j => .int (i * j)) v u H Q ∨ rI CMulW (fun i j => .int (i * j)) v u H Q ∨ rRep v u H Q
theorem o_mul : OpR X (binaryOp .Mult) rMulX := op_mul.or (op_mulW.or op_rep)
theorem reps_rep {K : PySem.W.Frag} {B : Addr → Prop} {μ : List Addr} {H : Hp} {xs : List Vl} {vs : List V} (r : Reps K cl B μ H xs vs) : ∀ n : Nat, Reps K cl B μ H (List.replicate n xs).flatten (List.replicate n vs).flatten
  | 0 => .nil
  | n + 1 => by
    rw [List.replicate_succ, List.replicate_succ, List.flatten_cons, List.flatten_cons]
    exact r.append (reps_rep r n)
theorem s_mul : Op2 X cl rMulX mulF := fun W ω μ S H x y z v u Q s rx ry h k => by
  unfold mulF at h
  split at h
  · split at h
    · cases h
      rename_i hb
      rcases hb with hb | hb
      · exact .inl ⟨_, _, repL_int rx, repL_int ry, hb, k H _ s Ext.refl (.int _)⟩
      · exact .inr (.inl ⟨_, _, repL_int rx, repL_int ry, wide_mul hb.1 hb.2 (by decide) (by decide) (by decide), k H _ s Ext.refl (.int _)⟩)
    · cases h
  · split at h
    · rename_i hb
      cases h
      obtain ⟨a, vs, rfl, h1, h2⟩ := repL_lst rx
      exact .inr (.inr ⟨a, _, vs, rfl, repL_int ry, h1, hb.1.1, hb.1.2, by rw [sizeLine_eq, ← h2.length]; exact hb.2, fun p hp => k _ _ (s.fresh hp) (Ext.fresh hp) (rep_newL s hp (reps_rep h2 _))⟩)
    · cases h
  · cases h
def subF : F2 := fun _ x y => match x, y with
  | .int i, .int j => some (.int (i - j))
  | _, _ => none
theorem s_sub : Op2 X cl (rI0 fun i j => .int (i - j)) subF := fun W ω μ S H x y z v u Q s rx ry h k => by
  unfold subF at h
  split at h
  · cases h
    exact ⟨_, _, repL_int rx, repL_int ry, k H _ s Ext.refl (.int _)⟩
  · cases h
def modF : F2 := fun _ x y => match x, y with
  | .int i, .int j => if 0 < j then some (.int (i % j)) else none
  | _, _ => none
theorem s_mod : Op2 X cl (rI (fun _ j => 0 < j) fun i j => .int (i % j)) modF := fun W ω μ S H x y z v u Q s rx ry h k => by
  unfold modF at h
  split at h
  · split at h
    · cases h
      exact ⟨_, _, repL_int rx, repL_int ry, by assumption, k H _ s Ext.refl (.int _)⟩
    · cases h
  · cases h
def fdivF : F2 := fun _ x y => match x, y with
  | .int i, .int j => if 0 < j ∧ j < 2 ^ 200 then some (.int (i / j)) else none
  | _, _ => none
theorem s_fdiv : Op2 X cl (rI CDivW fun i j => .int (i / j)) fdivF := fun W ω μ S H x y z v u Q s rx ry h k => by
  unfold fdivF at h
  split at h
  · split at h
    · rename_i j hb
      cases h
      exact ⟨_, _, repL_int rx, repL_int ry, wide_div hb.1 (b := 200) (by
        have h1 := hb.1
        have h2 := hb.2
        have h3 : (j.natAbs : Int) < ((2 ^ 200 : Nat) : Int) := by
          have : ((2 ^ 200 : Nat) : Int) = 2 ^ 200 := by simp
          omega
        exact Int.ofNat_lt.mp h3) (by decide) (by decide), k H _ s Ext.refl (.int _)⟩
    · cases h
  · cases h
def powF : F2 := fun _ x y => match x, y with
  | .int i, .int j => if 0 ≤ j ∧ j ≤ 1000000 ∧ i.natAbs < 2 ^ 64 then some (.int (i ^ j.toNat)) else none
  | _, _ => none
theorem s_pow : Op2 X cl (rI CPow fun i j => .int (i ^ j.toNat)) powF := fun W ω μ S H x y z v u Q s rx ry h k => by
  unfold powF at h
  split at h
  · split at h
    · cases h
      exact ⟨_, _, repL_int rx, repL_int ry, by assumption, k H _ s Ext.refl (.int _)⟩
    · cases h
  · cases h
def shlF : F2 := fun _ x y => match x, y with
  | .int i, .int j => if 0 ≤ j ∧ j ≤ 1000000 ∧ i.natAbs < 2 ^ 64 then some (.int (i * 2 ^ j.toNat)) else none
  | _, _ => none
theorem s_shl : Op2 X cl (rI CPow fun i j => .int (i * 2 ^ j.toNat)) shlF := fun W ω μ S H x y z v u Q s rx ry h k => by
  unfold shlF at h
  split at h
  · split at h
    · cases h
      exact ⟨_, _, repL_int rx, repL_int ry, by assumption, k H _ s Ext.refl (.int _)⟩
    · cases h
  · cases h
def negF : F1 := fun _ x => match x with
  | .int i => some (.int (-i))
  | _ => none
theorem s_neg : Op1 X cl (rU fun i => .int (-i)) negF := fun W ω μ S H x z v Q s rx h k => by
  unfold negF at h
  split at h
  · cases h
    exact ⟨_, repL_int rx, k H _ s Ext.refl (.int _)⟩
  · cases h
/-! ### order of ints -/
def cmpF (p : Int → Int → Bool) : F2 := fun _ x y => match x, y with
  | .int i, .int j => some (.bl (p i j))
  | _, _ => none
theorem s_cmp (p : Int → Int → Bool) : Op2 X cl (rI0 fun i j => .bl (p i j)) (cmpF p) := fun W ω μ S H x y z v u Q s rx ry h k => by
  unfold cmpF at h
  split at h
  · cases h
    exact ⟨_, _, repL_int rx, repL_int ry, k H _ s Ext.refl (.bl _)⟩
  · cases h
abbrev ltF : F2 := cmpF fun i j => decide (i < j)
abbrev leF : F2 := cmpF fun i j => decide (i ≤ j)
abbrev gtF : F2 := cmpF fun i j => decide (j < i)
abbrev geF : F2 := cmpF fun i j => decide (j ≤ i)
/-! ### is None -/
def Vl.isNon : Vl → Bool
  | .non => true
  | _ => false
def isNF : F2 := fun _ x y => match y with
  | .non => some (.bl x.isNon)
  | _ => none
def notNF : F2 := fun _ x y => match y with
  | .non => some (.bl (!x.isNon))
  | _ => none
theorem non_iff {K : PySem.W.Frag} {W : Addr → Prop} {ω : List (Option Addr)} {μ : List Addr} {H : Hp} {x : Vl} {v : V} (r : RepL K cl W ω μ H x v) : decide (v = .non) = x.isNon := by
  rcases r with r | ⟨a, e, _, r⟩
  · cases r <;> rfl
  · subst e
    cases r <;> rfl
theorem s_isN : Op2 X cl (fun x y H Q => y = .non ∧ Q (.bl (decide (x = .non))) H) isNF := fun W ω μ S H x y z v u Q s rx ry h k => by
  unfold isNF at h
  split at h
  · cases h
    refine ⟨repL_non ry, ?_⟩
    rw [non_iff rx]
    exact k H _ s Ext.refl (.bl _)
  · cases h
theorem s_notN : Op2 X cl (fun x y H Q => y = .non ∧ Q (.bl (!decide (x = .non))) H) notNF := fun W ω μ S H x y z v u Q s rx ry h k => by
  unfold notNF at h
  split at h
  · cases h
    refine ⟨repL_non ry, ?_⟩
    rw [non_iff rx]
    exact k H _ s Ext.refl (.bl _)
  · cases h
end
end Dm

set_option Elab.async false
set_option linter.all false
set_option maxRecDepth 100000
set_option autoImplicit false
set_option maxHeartbeats 1000000
/-! DmA: equality, membership, places, slices, lengths, conversions, all, sum, isinstance, dicts that stand still. -/
namespace Dm
open PySem PySem.Spec L2
/-! ### what may be read of a value, through the store -/
def look (S : Sto) (x : Vl) : Vl := match x with
  | .ref n => (S[n]?).getD x
  | _ => x
def RepR (K : PySem.W.Frag) (cl : Cl) (W : Addr → Prop) (ω : List (Option Addr)) (μ : List Addr) (H : Hp) (x : Vl) (v : V) : Prop := Rep K cl (Bn (Wo W ω) μ) μ H x v ∨ ∃ a, v = .ref a ∧ At K cl (Bn (Wo W ω) μ) μ H a x
section
variable {K : PySem.W.Frag} {cl : Cl} {W : Addr → Prop} {ω : List (Option Addr)} {μ : List Addr} {S : Sto} {H : Hp} {v : V} {xs : List Vl} {x : Vl}
theorem repR_of (s : Sim K cl (Wo W ω) μ S H) (r : RepL K cl W ω μ H x v) : RepR K cl W ω μ H (look S x) v := by
  rcases r with r | ⟨a, e, _, r⟩
  · cases x with
    | ref n =>
      cases r with
      | ref h =>
        cases hs : S[n]? with
        | none =>
          have e : look S (.ref n) = .ref n := by simp [look, hs]
          rw [e]
          exact .inl (.ref h)
        | some y =>
          have e : look S (.ref n) = y := by simp [look, hs]
          rw [e]
          obtain ⟨b, e1, e2⟩ := s.obs n y hs
          rw [h] at e1
          cases e1
          exact .inr ⟨_, rfl, e2⟩
    | _ => exact .inl r
  · cases r with
    | lst h1 h2 => exact .inr ⟨a, e, .lst h1 h2⟩
    | dk h1 h2 h3 => exact .inr ⟨a, e, .dk h1 h2 h3⟩
    | dt h1 h2 h3 => exact .inr ⟨a, e, .dt h1 h2 h3⟩
    | ins h1 h2 h3 => exact .inr ⟨a, e, .ins h1 h2 h3⟩
    | tab h1 h2 h3 => exact .inr ⟨a, e, .tab h1 h2 h3⟩
theorem repR_lst (r : RepR K cl W ω μ H (.lst xs) v) : ∃ a vs, v = .ref a ∧ H a = some (.lst vs) ∧ Reps K cl (Bn (Wo W ω) μ) μ H xs vs := by
  rcases r with r | ⟨a, e, r⟩
  · cases r with
    | lst h1 h2 h3 => exact ⟨_, _, rfl, h1, h3⟩
  · cases r with
    | lst h1 h2 => exact ⟨a, _, e, h1, h2⟩
theorem repR_tup (r : RepR K cl W ω μ H (.tup xs) v) : ∃ a vs, v = .ref a ∧ H a = some (.tup vs) ∧ ¬ Bn (Wo W ω) μ a ∧ Reps K cl (Bn (Wo W ω) μ) μ H xs vs := by
  rcases r with r | ⟨a, e, r⟩
  · cases r with
    | tup h1 h2 h3 => exact ⟨_, _, rfl, h1, h2, h3⟩
  · cases r
theorem repR_dk {ks : List Key} (r : RepR K cl W ω μ H (.dk ks xs) v) : ∃ a kvs, v = .ref a ∧ H a = some (.dK kvs) ∧ kvs.map (·.1) = ks ∧ Reps K cl (Bn (Wo W ω) μ) μ H xs (kvs.map (·.2)) := by
  rcases r with r | ⟨a, e, r⟩
  · cases r with
    | dk h1 h2 h3 h4 => exact ⟨_, _, rfl, h1, h3, h4⟩
  · cases r with
    | dk h1 h2 h3 => exact ⟨a, _, e, h1, h2, h3⟩
theorem repR_ins {c : Nat} {ns : List Str} (r : RepR K cl W ω μ H (.ins c ns xs) v) : ∃ a dx fs, v = .ref a ∧ H a = some (.ins (cl c) dx fs) ∧ fs.map (·.1) = ns ∧ Reps K cl (Bn (Wo W ω) μ) μ H xs (fs.map (·.2)) := by
  rcases r with r | ⟨a, e, r⟩
  · cases r with
    | ins h1 h2 h3 h4 => exact ⟨_, _, _, rfl, h1, h3, h4⟩
  · cases r with
    | ins h1 h2 h3 => exact ⟨a, _, _, e, h1, h2, h3⟩
theorem repR_str {z : Str} (r : RepR K cl W ω μ H (.str z) v) : v = .str z := by
  rcases r with r | ⟨a, e, r⟩
  · cases r; rfl
  · cases r
theorem at_reps {i : Int} {vs : List V} (r : Reps K cl (Bn (Wo W ω) μ) μ H xs vs) (h : atI xs i = some x) : ∃ v, atI vs i = some v ∧ Rep K cl (Bn (Wo W ω) μ) μ H x v := by
  unfold atI at h ⊢
  rw [r.length] at h
  cases e : ixN vs.length i with
  | none => rw [e] at h; cases h
  | some j =>
    rw [e] at h
    exact r.get (i := j) h
end
/-! ### data -/
mutual
def toD : Vl → PyData
  | .non => .none
  | .bl b => .bool b
  | .int i => .int i
  | .str x => .str x
  | .tup xs => .tuple (toDs xs)
  | .lst xs => .list (toDs xs)
  | .dk _ _ => .none
  | .dt _ _ => .none
  | .ins _ _ _ => .none
  | .ref _ => .none
  | .scr _ => .none
  | .ftp xs => .tuple (toDs xs)
  | .tab _ _ => .none
  | .exn _ _ _ => .none
  | .fdk _ _ => .none
  | .fdt _ _ => .none
def toDs : List Vl → List PyData
  | [] => []
  | x :: xs => toD x :: toDs xs
end
def okN : Nat → Vl → Bool
  | 0, _ => false
  | n + 1, x => match x with
    | .non => true
    | .bl _ => true
    | .int _ => true
    | .str z => z.cps.all (· < 0x110000)
    | .tup xs => xs.all (okN n)
    | .ftp xs => xs.all (okN n)
    | .lst xs => xs.all (okN n)
    | _ => false
def okD (x : Vl) : Bool := okN 60 x
def Vl.eqv (x y : Vl) : Bool := PyData.eqv (toD x) (toD y)
theorem okN_ok : ∀ {n : Nat} {x : Vl}, okN n x = true → (toD x).canLay0 = true ∧ (toD x).depth ≤ n
  | 0, _, h => by cases h
  | n + 1, x, h => by
    have all : ∀ {xs : List Vl}, xs.all (okN n) = true → PyData.canLayAll0 (toDs xs) = true ∧ PyData.depthAll (toDs xs) ≤ n := by
      intro xs
      induction xs with
      | nil => intro _; exact ⟨by simp [toDs, PyData.canLayAll0], by simp [toDs, PyData.depthAll]⟩
      | cons y ys ih =>
        intro q
        rw [List.all_cons, Bool.and_eq_true] at q
        obtain ⟨a1, a2⟩ := okN_ok q.1
        obtain ⟨b1, b2⟩ := ih q.2
        refine ⟨by simp [toDs, PyData.canLayAll0, a1, b1], ?_⟩
        simp only [toDs, PyData.depthAll]
        omega
    cases x with
    | non => simp [toD, PyData.canLay0, PyData.depth]
    | bl b => simp [toD, PyData.canLay0, PyData.depth]
    | int i => simp [toD, PyData.canLay0, PyData.depth]
    | str z =>
      have h' : z.cps.all (· < 0x110000) = true := h
      exact ⟨by simpa [toD, PyData.canLay0, PyData.strOk] using h', by simp [toD, PyData.depth]⟩
    | tup xs =>
      obtain ⟨a, b⟩ := all (xs := xs) h
      exact ⟨by simpa [toD, PyData.canLay0] using a, by simp only [toD, PyData.depth]; omega⟩
    | lst xs =>
      obtain ⟨a, b⟩ := all (xs := xs) h
      exact ⟨by simpa [toD, PyData.canLay0] using a, by simp only [toD, PyData.depth]; omega⟩
    | ftp xs =>
      obtain ⟨a, b⟩ := all (xs := xs) h
      exact ⟨by simpa [toD, PyData.canLay0] using a, by simp only [toD, PyData.depth]; omega⟩
    | dk _ _ => cases h
    | dt _ _ => cases h
    | ins _ _ _ => cases h
    | ref _ => cases h
    | scr _ => cases h
    | tab _ _ => cases h
    | exn _ _ _ => cases h
    | fdk _ _ => cases h
    | fdt _ _ => cases h
theorem okD_shaped {x : Vl} (h : okD x = true) : SeqAt.shaped (toD x) = true := by
  obtain ⟨a, b⟩ := okN_ok h
  unfold SeqAt.shaped
  rw [a, decide_eq_true (by omega : (toD x).depth ≤ 64)]
  rfl
section
variable {K : PySem.W.Frag} {cl : Cl} {B : Addr → Prop} {μ : List Addr} {H : Hp}
theorem dp_of : ∀ {n : Nat} {x : Vl} {v : V}, okN n x = true → Rep K cl B μ H x v → Dp K H v (toD x)
  | 0, _, _, h, _ => by cases h
  | n + 1, x, v, h, r => by
    have all : ∀ {xs : List Vl} {vs : List V}, xs.all (okN n) = true → Reps K cl B μ H xs vs → DpAll K H vs (toDs xs) := by
      intro xs
      induction xs with
      | nil => intro vs _ r; cases r; simp only [toDs]; exact .nil
      | cons y ys ih =>
        intro vs q r
        rw [List.all_cons, Bool.and_eq_true] at q
        cases r with
        | cons r rs => simp only [toDs]; exact .cons (dp_of q.1 r) (ih q.2 rs)
    cases r with
    | non => simp only [toD]; exact .non
    | bl b => simp only [toD]; exact .bl b
    | int i => simp only [toD]; exact .int i
    | str z => simp only [toD]; exact .str z
    | tup h1 h2 h3 => simp only [toD]; exact .tup (.of h1) (all h h3)
    | lst h1 h2 h3 => simp only [toD]; exact .lst (.of h1) (all h h3)
    | ftp h1 h0 h2 h3 => simp only [toD]; exact .tup (.inl (.inr ⟨_, h1⟩)) (all h h3)
    | scr _ => cases h
    | dk _ _ _ _ => cases h
    | dt _ _ _ _ => cases h
    | ins _ _ _ _ => cases h
    | ref _ => cases h
    | tab _ _ _ _ => cases h
    | exn _ _ _ _ _ _ => cases h
    | fdk _ _ _ _ => cases h
    | fdt _ _ _ _ => cases h
    | exz _ _ => cases h
end
theorem dp_ofR {K : PySem.W.Frag} {cl : Cl} {W : Addr → Prop} {ω : List (Option Addr)} {μ : List Addr} {H : Hp} {x : Vl} {v : V} (h : okD x = true) (r : RepR K cl W ω μ H x v) : Dp K H v (toD x) := by
  rcases r with r | ⟨a, e, r⟩
  · exact dp_of h r
  · cases r with
    | @lst xs vs h1 h2 =>
      subst e
      have all : ∀ {xs : List Vl} {vs : List V}, xs.all (okN 59) = true → Reps K cl (Bn (Wo W ω) μ) μ H xs vs → DpAll K H vs (toDs xs) := by
        intro xs
        induction xs with
        | nil => intro vs _ r; cases r; simp only [toDs]; exact .nil
        | cons y ys ih =>
          intro vs q r
          rw [List.all_cons, Bool.and_eq_true] at q
          cases r with
          | cons r rs => simp only [toDs]; exact .cons (dp_of q.1 r) (ih q.2 rs)
      simp only [toD]
      exact .lst (.of h1) (all h h2)
    | dk _ _ _ => cases h
    | dt _ _ _ => cases h
    | ins _ _ _ => cases h
    | tab _ _ _ => cases h
section
variable {X : Cx} {cl : Cl}
def eqF : F2 := fun S x y => if okD (look S x) && okD (look S y) then some (.bl ((look S x).eqv (look S y))) else none
def neF : F2 := fun S x y => if okD (look S x) && okD (look S y) then some (.bl (!(look S x).eqv (look S y))) else none
theorem s_eq : Op2 X cl (rEqD X.K) eqF := fun W ω μ S H x y z v u Q s rx ry h k => by
  unfold eqF at h
  split at h
  · rename_i hc
    rw [Bool.and_eq_true] at hc
    cases h
    exact ⟨_, _, dp_ofR hc.1 (repR_of s rx), dp_ofR hc.2 (repR_of s ry), okD_shaped hc.1, okD_shaped hc.2, k H _ s Ext.refl (.bl _)⟩
  · cases h
theorem s_ne : Op2 X cl (rNeD X.K) neF := fun W ω μ S H x y z v u Q s rx ry h k => by
  unfold neF at h
  split at h
  · rename_i hc
    rw [Bool.and_eq_true] at hc
    cases h
    exact ⟨_, _, dp_ofR hc.1 (repR_of s rx), dp_ofR hc.2 (repR_of s ry), okD_shaped hc.1, okD_shaped hc.2, k H _ s Ext.refl (.bl _)⟩
  · cases h
/-! ### dicts that stand still -/
def keyV : Vl → Option Key
  | .int i => some (.inl i)
  | .str z => some (.inr z)
  | _ => none
def dkGet : List Key → List Vl → Key → Option Vl
  | q :: ks, x :: xs, k => if q = k then some x else dkGet ks xs k
  | _, _, _ => none
theorem dkGet_val {K : PySem.W.Frag} {B : Addr → Prop} {μ : List Addr} {H : Hp} : ∀ {kvs : List (Key × V)} {ks : List Key} {xs : List Vl} {k : Key}, kvs.map (·.1) = ks → Reps K cl B μ H xs (kvs.map (·.2)) →
    (∀ x, dkGet ks xs k = some x → ∃ v, valV kvs k = some v ∧ Rep K cl B μ H x v) ∧ (dkGet ks xs k = none → valV kvs k = none)
  | [], ks, xs, k, e, r => by
    cases e
    refine ⟨?_, fun _ => rfl⟩
    intro x h
    simp only [List.map_nil, dkGet] at h
    cases h
  | (q, v) :: kvs, ks, xs, k, e, r => by
    cases e
    cases r with
    | @cons x xs v vs r rs =>
      obtain ⟨i1, i2⟩ := dkGet_val (kvs := kvs) (k := k) rfl rs
      by_cases hq : q = k
      · refine ⟨fun y h => ?_, fun h => ?_⟩
        · simp only [List.map_cons, dkGet, if_pos hq] at h
          cases h
          exact ⟨v, valV_pos hq, r⟩
        · simp only [List.map_cons, dkGet, if_pos hq] at h
          cases h
      · refine ⟨fun y h => ?_, fun h => ?_⟩
        · simp only [List.map_cons, dkGet, if_neg hq] at h
          rw [valV_neg hq]
          exact i1 y h
        · simp only [List.map_cons, dkGet, if_neg hq] at h
          rw [valV_neg hq]
          exact i2 h
theorem key_rep {K : PySem.W.Frag} {W : Addr → Prop} {ω : List (Option Addr)} {μ : List Addr} {H : Hp} {x : Vl} {v : V} {k : Key} (r : RepL K cl W ω μ H x v) (h : keyV x = some k) : v = kV k := by
  cases x with
  | int i => cases h; exact repL_int r
  | str z => cases h; exact repL_str r
  | _ => cases h
/-! ### places -/
def ixF : F2 := fun S x y => match look S x, y with
  | .lst xs, .int i => atI xs i
  | .tup xs, .int i => atI xs i
  | .str z, .int i => if z.length ≤ 16777216 then (atI z.cps.toList i).map fun c => .str ⟨#[c]⟩ else none
  | .dk ks xs, k => (keyV k).bind (dkGet ks xs)
  | _, _ => none
def rIxD : R2 := fun x y H Q => ∃ a v, x = .ref a ∧ DGet H a y (some v) ∧ Q v H
theorem ix_dict (hu : X.A.units + 1 < cLine) : IxR X rIxD := by
  intro value slice pins s σ H x y v u Q I rx ry h hs
  obtain ⟨a, w, rfl, g, q⟩ := h
  cases rx
  exact PyProof.Rows.tail_any (dict_typeIs I g) PySem.F.slot_dict_getitem.lookup (d_getItem hu I g ry fun w' s' I' r' => ⟨w, H, I', r', q⟩) hs
def rIxX (K : PySem.W.Frag) : R2 := fun x y H Q => rIx K x y H Q ∨ rIxD x y H Q
theorem o_ix (hu : X.A.units + 1 < cLine) : IxR X (rIxX X.K) := ix_seq.or (ix_dict hu)
theorem s_ix : Op2 X cl (rIxX X.K) ixF := fun W ω μ S H x y z v u Q s rx ry h k => by
  have rr := repR_of s rx
  unfold ixF at h
  revert rr h
  generalize look S x = x'
  intro h rr
  split at h
  · obtain ⟨a, vs, rfl, h1, h2⟩ := repR_lst rr
    obtain ⟨w, g1, g2⟩ := at_reps h2 h
    exact .inl (.inl ⟨a, vs, _, w, rfl, repL_int ry, .of h1, g1, k H _ s Ext.refl g2⟩)
  · obtain ⟨a, vs, rfl, h1, _, h2⟩ := repR_tup rr
    obtain ⟨w, g1, g2⟩ := at_reps h2 h
    exact .inl (.inr (.inl ⟨a, vs, _, w, rfl, repL_int ry, .of h1, g1, k H _ s Ext.refl g2⟩))
  · split at h
    · obtain ⟨c, h1, rfl⟩ := Option.map_eq_some_iff.mp h
      exact .inl (.inr (.inr ⟨_, _, c, repR_str rr, repL_int ry, by rw [sizeLine_eq]; assumption, h1, k H _ s Ext.refl (.str _)⟩))
    · cases h
  · obtain ⟨a, kvs, rfl, h1, h2, h3⟩ := repR_dk rr
    obtain ⟨q, hq, h4⟩ := Option.bind_eq_some_iff.mp h
    obtain ⟨w, g1, g2⟩ := (dkGet_val h2 h3).1 _ h4
    refine .inr ⟨a, w, rfl, ?_, k H _ s Ext.refl g2⟩
    rw [key_rep ry hq, ← g1]
    exact .k h1
  · cases h
end
end Dm

set_option Elab.async false
set_option linter.all false
set_option maxRecDepth 100000
set_option autoImplicit false
set_option maxHeartbeats 1000000
/-! DmB: membership, slices, built-in calls, isinstance. -/
namespace Dm
open PySem PySem.Spec L2
def Vl.flat : Vl → Bool
  | .non => true
  | .bl _ => true
  | .int _ => true
  | .str _ => true
  | _ => false
def fV : Vl → V
  | .non => .non
  | .bl b => .bl b
  | .int i => .int i
  | .str z => .str z
  | _ => .non
section
variable {K : PySem.W.Frag} {cl : Cl} {B : Addr → Prop} {μ : List Addr} {H : Hp}
theorem flat_rep {x : Vl} {v : V} (h : x.flat = true) (r : Rep K cl B μ H x v) : v = fV x ∧ flatV v = true := by
  cases r <;> first | exact ⟨rfl, rfl⟩ | cases h
theorem flat_reps : ∀ {xs : List Vl} {vs : List V}, xs.all Vl.flat = true → Reps K cl B μ H xs vs → vs = xs.map fV ∧ vs.all flatV = true
  | _, _, _, .nil => ⟨rfl, rfl⟩
  | _, _, h, .cons r rs => by
    rw [List.all_cons, Bool.and_eq_true] at h
    obtain ⟨a1, a2⟩ := flat_rep h.1 r
    obtain ⟨b1, b2⟩ := flat_reps h.2 rs
    exact ⟨by rw [a1, b1, List.map_cons], by rw [List.all_cons, a2, b2]; rfl⟩
end
section
variable {X : Cx} {cl : Cl}
def inB (S : Sto) (x y : Vl) : Option Bool := match look S y with
  | .lst ys => if x.flat && ys.all Vl.flat then some (inV (fV x) (ys.map fV)) else none
  | .tup ys => if x.flat && ys.all Vl.flat then some (inV (fV x) (ys.map fV)) else none
  | .str z => (match x with | .str w => (match w.cps.toList with | [c] => some (decide (c ∈ z.cps.toList)) | _ => none) | _ => none)
  | .dk ks xs => (keyV x).map fun k => (dkGet ks xs k).isSome
  | _ => none
def inF : F2 := fun S x y => (inB S x y).map Vl.bl
def notInF : F2 := fun S x y => (inB S x y).map fun b => .bl (!b)
def rInDct : R2 := fun y x H Q => ∃ a o, x = .ref a ∧ DGet H a y o ∧ Q (.bl o.isSome) H
def rNotInDct : R2 := fun y x H Q => ∃ a o, x = .ref a ∧ DGet H a y o ∧ Q (.bl (!o.isSome)) H
theorem op_inDct (hu : X.A.units + 1 < cLine) : OpR X (compareOp .In) rInDct := by
  intro pins s σ H y x u v Q I ry rx h
  obtain ⟨a, o, rfl, g, q⟩ := h
  cases rx
  exact d_in hu I g ry fun s' I' => ⟨.bl _, H, I', rfl, q⟩
theorem op_notInDct (hu : X.A.units + 1 < cLine) : OpR X (compareOp .NotIn) rNotInDct := by
  intro pins s σ H y x u v Q I ry rx h
  obtain ⟨a, o, rfl, g, q⟩ := h
  cases rx
  exact d_notIn hu I g ry fun s' I' => ⟨.bl _, H, I', rfl, q⟩
def rInX (K : PySem.W.Frag) : R2 := fun x y H Q => rIn K false x y H Q ∨ (∃ (c : Nat) (z : Str), x = .str ⟨#[c]⟩ ∧ y = .str z ∧ Q (.bl (decide (c ∈ z.cps.toList))) H) ∨ rInDct x y H Q
def rNotInX (K : PySem.W.Frag) : R2 := fun x y H Q => rIn K true x y H Q ∨ (∃ (c : Nat) (z : Str), x = .str ⟨#[c]⟩ ∧ y = .str z ∧ Q (.bl (!decide (c ∈ z.cps.toList))) H) ∨ rNotInDct x y H Q
theorem o_in (hu : X.A.units + 1 < cLine) : OpR X (compareOp .In) (rInX X.K) := op_in_seq.or (op_in_sign.or (op_inDct hu))
theorem o_notIn (hu : X.A.units + 1 < cLine) : OpR X (compareOp .NotIn) (rNotInX X.K) := op_notIn_seq.or (op_notIn_sign.or (op_notInDct hu))
theorem repL_flat {K : PySem.W.Frag} {W : Addr → Prop} {ω : List (Option Addr)} {μ : List Addr} {H : Hp} {x : Vl} {v : V} (h : x.flat = true) (r : RepL K cl W ω μ H x v) : v = fV x ∧ flatV v = true := by
  rcases r with r | ⟨a, e, _, r⟩
  · exact flat_rep h r
  · cases r <;> cases h
theorem in_cases {W : Addr → Prop} {ω : List (Option Addr)} {μ : List Addr} {S : Sto} {H : Hp} {x y : Vl} {v u : V} {b : Bool} (s : Sim X.K cl (Wo W ω) μ S H) (rx : RepL X.K cl W ω μ H x v) (ry : RepL X.K cl W ω μ H y u) (h : inB S x y = some b) :
    (∃ p vs, u = .ref p ∧ (SqL X.K H p vs ∨ SqT X.K H p vs) ∧ flatV v = true ∧ vs.all flatV = true ∧ inV v vs = b) ∨ (∃ (c : Nat) (z : Str), v = .str ⟨#[c]⟩ ∧ u = .str z ∧ decide (c ∈ z.cps.toList) = b) ∨ ∃ a o, u = .ref a ∧ DGet H a v o ∧ o.isSome = b := by
  have rr := repR_of s ry
  unfold inB at h
  revert rr h
  generalize look S y = y'
  intro h rr
  split at h
  · split at h
    · rename_i ys hc
      rw [Bool.and_eq_true] at hc
      obtain ⟨a, vs, rfl, h1, h2⟩ := repR_lst rr
      obtain ⟨e1, e2⟩ := flat_reps hc.2 h2
      obtain ⟨e3, e4⟩ := repL_flat hc.1 rx
      refine .inl ⟨a, vs, rfl, .inl (.of h1), e4, e2, ?_⟩
      rw [e3, e1]
      exact Option.some.inj h
    · cases h
  · split at h
    · rename_i ys hc
      rw [Bool.and_eq_true] at hc
      obtain ⟨a, vs, rfl, h1, _, h2⟩ := repR_tup rr
      obtain ⟨e1, e2⟩ := flat_reps hc.2 h2
      obtain ⟨e3, e4⟩ := repL_flat hc.1 rx
      refine .inl ⟨a, vs, rfl, .inr (.of h1), e4, e2, ?_⟩
      rw [e3, e1]
      exact Option.some.inj h
    · cases h
  · split at h
    · rename_i w
      split at h
      · rename_i c hw
        have ew : w = ⟨#[c]⟩ := by
          cases w with
          | mk cps =>
            have : cps = #[c] := by
              apply Array.ext'
              simpa using hw
            rw [this]
        refine .inr (.inl ⟨c, _, by rw [repL_str rx, ew], repR_str rr, Option.some.inj h⟩)
      · cases h
    · cases h
  · obtain ⟨a, kvs, rfl, h1, h2, h3⟩ := repR_dk rr
    obtain ⟨q, hq, h4⟩ := Option.map_eq_some_iff.mp h
    refine .inr (.inr ⟨a, valV kvs q, rfl, by rw [key_rep rx hq]; exact .k h1, ?_⟩)
    obtain ⟨i1, i2⟩ := dkGet_val (k := q) h2 h3
    cases hd : dkGet _ _ q with
    | none => rw [hd] at h4; rw [i2 hd]; exact h4
    | some w =>
      obtain ⟨w', e1, _⟩ := i1 w hd
      rw [hd] at h4
      rw [e1]
      exact h4
  · cases h
theorem s_in : Op2 X cl (rInX X.K) inF := fun W ω μ S H x y z v u Q s rx ry h k => by
  obtain ⟨b, hb, rfl⟩ := Option.map_eq_some_iff.mp h
  have fin := k H _ s Ext.refl (.bl b)
  rcases in_cases s rx ry hb with ⟨p, vs, h1, h2, h3, h4, rfl⟩ | ⟨c, z, h1, h2, rfl⟩ | ⟨a, o, h1, h2, rfl⟩
  · exact .inl ⟨p, vs, h1, h2, h3, h4, fin⟩
  · exact .inr (.inl ⟨c, z, h1, h2, fin⟩)
  · exact .inr (.inr ⟨a, o, h1, h2, fin⟩)
theorem s_notIn : Op2 X cl (rNotInX X.K) notInF := fun W ω μ S H x y z v u Q s rx ry h k => by
  obtain ⟨b, hb, rfl⟩ := Option.map_eq_some_iff.mp h
  have fin := k H _ s Ext.refl (.bl (!b))
  rcases in_cases s rx ry hb with ⟨p, vs, h1, h2, h3, h4, rfl⟩ | ⟨c, z, h1, h2, rfl⟩ | ⟨a, o, h1, h2, rfl⟩
  · exact .inl ⟨p, vs, h1, h2, h3, h4, fin⟩
  · exact .inr (.inl ⟨c, z, h1, h2, fin⟩)
  · exact .inr (.inr ⟨a, o, h1, h2, fin⟩)
/-! ### slices -/
abbrev OM := List Sv → Sto → Res (Option Int)
def oN : OM := fun _ S => .ok none S
def oS (m : EM) : OM := fun env S => (m env S).bind fun x S1 => match x with
  | .int i => .ok (some i) S1
  | _ => .bad
def tO (K : PySem.W.Frag) (cl : Cl) (E : XK) (o : OM) : TO := fun σ H Q => ∃ W ω μ S env, Rl K cl W ω μ S env σ H ∧ SatG K cl (Wo W ω) μ H (o env S) (fun i _ _ H' => Q i H') E
variable {E : XK} {e : Expr} {lo hi : Option Expr} {m ml mh : EM} {ol oh : OM} {pos p2 : Pos}
theorem _root_.L2.PO.imp {t t' : TO} (h : PO X lo t) (k : ∀ σ H Q, t' σ H Q → t σ H Q) : PO X lo t' := ⟨fun pins s σ H Q I q => h.run pins s σ H Q I (k σ H Q q)⟩
theorem do_none : PO X none (tO X.K cl E oN) := po_none.imp fun σ H Q ⟨W, ω, μ, S, env, rl, q⟩ => q μ H rl.sim Ext.refl
theorem do_some (h : PE X e (tD X.K cl E m)) : PO X (some e) (tO X.K cl E (oS m)) := (po_some h).imp fun σ H Q ⟨W, ω, μ, S, env, rl, q⟩ =>
  ⟨W, ω, μ, S, env, rl, q.bind.mono fun x S1 μ1 H1 _ s1 e1 q1 v rv => by
    cases x with
    | int i => cases rv; exact ⟨i, rfl, q1 μ1 H1 s1 Ext.refl⟩
    | _ => exact q1.elim⟩
def cutL {α : Type} (xs : List α) (lo hi : Option Int) : List α := (xs.drop (HT.sIx xs.length 0 lo)).take (HT.sIx xs.length xs.length hi - HT.sIx xs.length 0 lo)
def slF (S : Sto) (x : Vl) (lo hi : Option Int) : Option Vl := match look S x with
  | .lst xs => some (.lst (cutL xs lo hi))
  | .tup xs => some (.tup (cutL xs lo hi))
  | .str z => if z.length ≤ 16777216 then some (.str (cutS z lo hi)) else none
  | _ => none
def slM (m : EM) (l h : OM) : EM := fun env S => (m env S).bind fun x S1 => (l env S1).bind fun a S2 => (h env S2).bind fun b S3 => match slF S3 x a b with
  | some v => .ok v S3
  | none => .bad
def slLF (S : Sto) (x : Vl) (lo hi : Option Int) : Option Vl := match look S x with
  | .lst xs => some (.lst (cutL xs lo hi))
  | _ => none
def slN (m : EM) (l h : OM) : EM := fun env S => (m env S).bind fun x S1 => (l env S1).bind fun a S2 => (h env S2).bind fun b S3 => match slLF S3 x a b with
  | some v => .ok v S3
  | none => .bad
theorem reps_cut {K : PySem.W.Frag} {B : Addr → Prop} {μ : List Addr} {H : Hp} {xs : List Vl} {vs : List V} (r : Reps K cl B μ H xs vs) (lo hi : Option Int) : Reps K cl B μ H (cutL xs lo hi) (cutV vs lo hi) := by
  unfold cutL cutV
  rw [r.length]
  exact (r.drop _).take _
def rSlX (K : PySem.W.Frag) : V → Option Int → Option Int → Hp → VK → Prop := fun x lo hi H Q => rSlL K x lo hi H Q ∨ rSlA K x lo hi H Q ∨ rSlS x lo hi H Q
theorem o_sl : SlR X (rSlX X.K) := sl_list.or (sl_tupA.or sl_str)
theorem cut_whole {α : Type} {xs : List α} {lo hi : Option Int} (h : HT.sIx xs.length 0 lo = 0 ∧ HT.sIx xs.length xs.length hi = xs.length) : cutL xs lo hi = xs := by
  unfold cutL
  rw [h.1, h.2]
  simp
theorem de_sl (he : PE X e (tL X.K cl E m)) (hl : PO X lo (tO X.K cl E ol)) (hh : PO X hi (tO X.K cl E oh)) : PE X (.Subscript e (.Slice lo hi none p2) pos) (tD X.K cl E (slM m ol oh)) := (pe_slice o_sl he hl hh).imp fun σ H Q ⟨W, ω, μ, S, env, rl, q⟩ => by
  refine ⟨W, ω, μ, S, env, rl, q.bind.mono fun x S1 μ1 H1 _ s1 e1 q1 v rv => ⟨W, ω, μ1, S1, env, rl.ext e1 s1, q1.bind.mono fun a S2 μ2 H2 _ s2 e2 q2 => ⟨W, ω, μ2, S2, env, (rl.ext e1 s1).ext e2 s2, q2.bind.mono fun b S3 μ3 H3 _ s3 e3 q3 => ?_⟩⟩⟩
  have rr := repR_of s3 (RepL.mono s2 e3 (RepL.mono s1 e2 rv))
  revert q3 rr
  unfold slF
  generalize look S3 x = x'
  intro q3 rr
  cases x' with
  | lst xs =>
    obtain ⟨p, vs, rfl, h1, h2⟩ := repR_lst rr
    exact .inl ⟨p, vs, rfl, .of h1, fun t ht => q3 μ3 _ (s3.fresh ht) (Ext.fresh ht) _ (rep_newL s3 ht (reps_cut h2 a b))⟩
  | tup xs =>
    obtain ⟨p, vs, rfl, h1, hb, h2⟩ := repR_tup rr
    refine .inr (.inl ⟨p, vs, rfl, .of h1, fun hw => ?_, fun hw t ht => q3 μ3 _ (s3.fresh ht) (Ext.fresh ht) _ (rep_newT s3 ht (reps_cut h2 a b))⟩)
    rw [← h2.length] at hw
    have q4 := q3 μ3 H3 s3 Ext.refl (.ref p)
    rw [cut_whole hw] at q4
    exact q4 (.tup h1 hb h2)
  | str z =>
    by_cases hz : z.length ≤ 16777216
    · dsimp only at q3
      rw [if_pos hz] at q3
      exact .inr (.inr ⟨z, repR_str rr, by rw [sizeLine_eq]; exact hz, q3 μ3 H3 s3 Ext.refl _ (.str _)⟩)
    · dsimp only at q3
      rw [if_neg hz] at q3
      exact q3.elim
  | _ => exact q3.elim
theorem dn_sl (he : PE X e (tL X.K cl E m)) (hl : PO X lo (tO X.K cl E ol)) (hh : PO X hi (tO X.K cl E oh)) : PE X (.Subscript e (.Slice lo hi none p2) pos) (tN X.K cl E (slN m ol oh)) := (pe_slice sl_list he hl hh).imp fun σ H Q ⟨W, ω, μ, S, env, rl, q⟩ => by
  refine ⟨W, ω, μ, S, env, rl, q.bind.mono fun x S1 μ1 H1 _ s1 e1 q1 v rv => ⟨W, ω, μ1, S1, env, rl.ext e1 s1, q1.bind.mono fun a S2 μ2 H2 _ s2 e2 q2 => ⟨W, ω, μ2, S2, env, (rl.ext e1 s1).ext e2 s2, q2.bind.mono fun b S3 μ3 H3 _ s3 e3 q3 => ?_⟩⟩⟩
  have rr := repR_of s3 (RepL.mono s2 e3 (RepL.mono s1 e2 rv))
  revert q3 rr
  unfold slLF
  generalize look S3 x = x'
  intro q3 rr
  cases x' with
  | lst xs =>
    obtain ⟨p, vs, rfl, h1, h2⟩ := repR_lst rr
    exact ⟨p, vs, rfl, .of h1, fun t ht => q3 μ3 _ (s3.fresh ht) (Ext.fresh ht) t (fresh_back e1 (fresh_back e2 (fresh_back e3 ht))) (s3.freshBan ht fun z => s3.tracked (.inl z) ht) (.lst upd_same ((reps_cut h2 a b).mono (Ext.kpBan ht)))⟩
  | _ => exact q3.elim
/-! ### built-in calls -/
theorem repsL1 {K : PySem.W.Frag} {W : Addr → Prop} {ω : List (Option Addr)} {μ : List Addr} {H : Hp} {x : Vl} {vs : List V} (r : RepsL K cl W ω μ H [x] vs) : ∃ v, vs = [v] ∧ RepL K cl W ω μ H x v := by
  cases r with
  | cons a b => cases b; exact ⟨_, rfl, a⟩
theorem repsL2 {K : PySem.W.Frag} {W : Addr → Prop} {ω : List (Option Addr)} {μ : List Addr} {H : Hp} {x y : Vl} {vs : List V} (r : RepsL K cl W ω μ H [x, y] vs) : ∃ v u, vs = [v, u] ∧ RepL K cl W ω μ H x v ∧ RepL K cl W ω μ H y u := by
  cases r with
  | cons a b =>
    cases b with
    | cons b c => cases c; exact ⟨_, _, rfl, a, b⟩
def lenF : FA := fun S xs => match xs with
  | [x] => (match look S x with
    | .lst ys => some (.int ys.length)
    | .tup ys => some (.int ys.length)
    | .ftp ys => some (.int ys.length)
    | .str z => if z.length ≤ 16777216 then some (.int z.length) else none
    | .dk ks _ => some (.int ks.length)
    | _ => none)
  | _ => none
def rLenX (K : PySem.W.Frag) : List V → Hp → VK → Prop := fun xs H Q => (∃ x n, xs = [x] ∧ LenV K x H n ∧ Q (.int n) H) ∨ ∃ a kvs, xs = [V.ref a] ∧ H a = some (.dK kvs) ∧ Q (.int kvs.length) H
theorem o_len : CallR X (.builtin "len") (rLenX X.K) := call_len.or call_lenD
theorem s_len : OpA X cl (rLenX X.K) lenF := fun W ω μ S H xs z vs Q s r h k => by
  unfold lenF at h
  split at h
  · obtain ⟨v, rfl, rv⟩ := repsL1 r
    have rr := repR_of s rv
    revert h rr
    generalize look S _ = x'
    intro h rr
    cases x' with
    | lst ys =>
      cases h
      obtain ⟨p, ws, rfl, h1, h2⟩ := repR_lst rr
      rw [h2.length] at k
      exact .inl ⟨_, _, rfl, .inl ⟨ws, .of h1, rfl⟩, k H _ s Ext.refl (.int _)⟩
    | tup ys =>
      cases h
      obtain ⟨p, ws, rfl, h1, _, h2⟩ := repR_tup rr
      rw [h2.length] at k
      exact .inl ⟨_, _, rfl, .inr ⟨ws, .of h1, rfl⟩, k H _ s Ext.refl (.int _)⟩
    | ftp ys =>
      cases h
      rcases rr with rr | ⟨a, e, rr⟩
      · cases rr with
        | ftp h1 h0 h2 h3 =>
          rw [h3.length] at k
          exact .inl ⟨_, _, rfl, .inr ⟨_, .inl (.inr ⟨_, h1⟩), rfl⟩, k H _ s Ext.refl (.int _)⟩
      · cases rr
    | str w =>
      dsimp only at h
      split at h
      · cases h
        rw [repR_str rr]
        exact .inl ⟨_, _, rfl, ⟨by rw [sizeLine_eq]; assumption, rfl⟩, k H _ s Ext.refl (.int _)⟩
      · cases h
    | dk ks ys =>
      cases h
      obtain ⟨p, kvs, rfl, h1, h2, _⟩ := repR_dk rr
      subst h2
      rw [List.length_map] at k
      exact .inr ⟨_, _, rfl, h1, k H _ s Ext.refl (.int _)⟩
    | _ => cases h
  · cases h
def intF : FA := fun _ xs => match xs with
  | [.int i] => some (.int i)
  | [.bl b] => some (.int (if b then 1 else 0))
  | _ => none
theorem s_int : OpA X cl (fun xs H Q => (∃ i, xs = [.int i] ∧ Q (.int i) H) ∨ ∃ k, xs = [.bl k] ∧ Q (.int (if k then 1 else 0)) H) intF := fun W ω μ S H xs z vs Q s r h k => by
  unfold intF at h
  split at h
  · cases h
    obtain ⟨v, rfl, rv⟩ := repsL1 r
    rw [repL_int rv]
    exact .inl ⟨_, rfl, k H _ s Ext.refl (.int _)⟩
  · cases h
    obtain ⟨v, rfl, rv⟩ := repsL1 r
    rw [repL_bl rv]
    exact .inr ⟨_, rfl, k H _ s Ext.refl (.int _)⟩
  · cases h
def absF : FA := fun _ xs => match xs with
  | [.int i] => some (.int (if i < 0 then -i else i))
  | _ => none
theorem s_abs : OpA X cl (fun xs H Q => ∃ i, xs = [.int i] ∧ Q (.int (if i < 0 then -i else i)) H) absF := fun W ω μ S H xs z vs Q s r h k => by
  unfold absF at h
  split at h
  · cases h
    obtain ⟨v, rfl, rv⟩ := repsL1 r
    rw [repL_int rv]
    exact ⟨_, rfl, k H _ s Ext.refl (.int _)⟩
  · cases h
def tupF : FA := fun S xs => match xs with
  | [x] => (match look S x with
    | .lst ys => some (.tup ys)
    | .tup ys => some (.tup ys)
    | _ => none)
  | _ => none
def rTupC (K : PySem.W.Frag) : List V → Hp → VK → Prop := fun xs H Q => ∃ p ys, xs = [.ref p] ∧ ((SqL K H p ys ∧ ∀ l, H l = none → Q (.ref l) (upd H l (.tup ys))) ∨ (SqT K H p ys ∧ Q (.ref p) H))
theorem s_tup : OpA X cl (rTupC X.K) tupF := fun W ω μ S H xs z vs Q s r h k => by
  unfold tupF at h
  split at h
  · obtain ⟨v, rfl, rv⟩ := repsL1 r
    have rr := repR_of s rv
    revert h rr
    generalize look S _ = x'
    intro h rr
    cases x' with
    | lst ys =>
      cases h
      obtain ⟨p, ws, rfl, h1, h2⟩ := repR_lst rr
      exact ⟨p, ws, rfl, .inl ⟨.of h1, fun l hl => k _ _ (s.fresh hl) (Ext.fresh hl) (rep_newT s hl h2)⟩⟩
    | tup ys =>
      cases h
      obtain ⟨p, ws, rfl, h1, hb, h2⟩ := repR_tup rr
      exact ⟨p, ws, rfl, .inr ⟨.of h1, k H _ s Ext.refl (.tup h1 hb h2)⟩⟩
    | _ => cases h
  · cases h
def listF : FA := fun S xs => match xs with
  | [x] => (match look S x with
    | .lst ys => some (.lst ys)
    | .tup ys => some (.lst ys)
    | _ => none)
  | _ => none
def rLstC (K : PySem.W.Frag) : List V → Hp → VK → Prop := fun xs H Q => ∃ p ys, xs = [.ref p] ∧ (SqL K H p ys ∨ SqT K H p ys) ∧ ∀ l, H l = none → Q (.ref l) (upd H l (.lst ys))
theorem s_list : OpAN X cl (rLstC X.K) listF := fun W ω μ S H xs z vs Q s r h k => by
  unfold listF at h
  split at h
  · obtain ⟨v, rfl, rv⟩ := repsL1 r
    have rr := repR_of s rv
    revert h rr
    generalize look S _ = x'
    intro h rr
    cases x' with
    | lst ys =>
      cases h
      obtain ⟨p, ws, rfl, h1, h2⟩ := repR_lst rr
      exact ⟨p, ws, rfl, .inl (.of h1), fun l hl => k l _ hl (.lst h2)⟩
    | tup ys =>
      cases h
      obtain ⟨p, ws, rfl, h1, _, h2⟩ := repR_tup rr
      exact ⟨p, ws, rfl, .inr (.of h1), fun l hl => k l _ hl (.lst h2)⟩
    | _ => cases h
  · cases h
/-- lists of bools, of ints -/
def bools : List Vl → Option (List Bool)
  | [] => some []
  | .bl b :: xs => (bools xs).map (b :: ·)
  | _ => none
def nums : List Vl → Option (List Int)
  | [] => some []
  | .int b :: xs => (nums xs).map (b :: ·)
  | _ => none
theorem bools_rep {K : PySem.W.Frag} {B : Addr → Prop} {μ : List Addr} {H : Hp} : ∀ {xs : List Vl} {vs : List V} {bs : List Bool}, Reps K cl B μ H xs vs → bools xs = some bs → vs = bs.map V.bl
  | _, _, _, .nil, h => by cases h; rfl
  | _, _, bs, .cons r rs, h => by
    cases r with
    | bl b =>
      obtain ⟨cs, h1, rfl⟩ := Option.map_eq_some_iff.mp h
      rw [bools_rep rs h1, List.map_cons]
    | _ => cases h
theorem nums_rep {K : PySem.W.Frag} {B : Addr → Prop} {μ : List Addr} {H : Hp} : ∀ {xs : List Vl} {vs : List V} {bs : List Int}, Reps K cl B μ H xs vs → nums xs = some bs → vs = bs.map V.int
  | _, _, _, .nil, h => by cases h; rfl
  | _, _, bs, .cons r rs, h => by
    cases r with
    | int b =>
      obtain ⟨cs, h1, rfl⟩ := Option.map_eq_some_iff.mp h
      rw [nums_rep rs h1, List.map_cons]
    | _ => cases h
def allF : FA := fun S xs => match xs with
  | [x] => (match look S x with
    | .lst ys => (bools ys).map fun bs => .bl (bs.all id)
    | _ => none)
  | _ => none
def anyF : FA := fun S xs => match xs with
  | [x] => (match look S x with
    | .lst ys => (bools ys).map fun bs => .bl (bs.any id)
    | _ => none)
  | _ => none
def sumF : FA := fun S xs => match xs with
  | [x] => (match look S x with
    | .lst ys => (nums ys).map fun bs => .int bs.sum
    | _ => none)
  | _ => none
theorem s_all : OpA X cl (rAll X.K) allF := fun W ω μ S H xs z vs Q s r h k => by
  unfold allF at h
  split at h
  · obtain ⟨v, rfl, rv⟩ := repsL1 r
    have rr := repR_of s rv
    revert h rr
    generalize look S _ = x'
    intro h rr
    cases x' with
    | lst ys =>
      obtain ⟨bs, h1, rfl⟩ := Option.map_eq_some_iff.mp h
      obtain ⟨p, ws, rfl, g1, g2⟩ := repR_lst rr
      rw [bools_rep g2 h1] at g1
      exact ⟨p, bs, rfl, .of g1, k H _ s Ext.refl (.bl _)⟩
    | _ => cases h
  · cases h
theorem s_any : OpA X cl (rAny X.K) anyF := fun W ω μ S H xs z vs Q s r h k => by
  unfold anyF at h
  split at h
  · obtain ⟨v, rfl, rv⟩ := repsL1 r
    have rr := repR_of s rv
    revert h rr
    generalize look S _ = x'
    intro h rr
    cases x' with
    | lst ys =>
      obtain ⟨bs, h1, rfl⟩ := Option.map_eq_some_iff.mp h
      obtain ⟨p, ws, rfl, g1, g2⟩ := repR_lst rr
      rw [bools_rep g2 h1] at g1
      exact ⟨p, bs, rfl, .of g1, k H _ s Ext.refl (.bl _)⟩
    | _ => cases h
  · cases h
theorem s_sum : OpA X cl (rSum X.K) sumF := fun W ω μ S H xs z vs Q s r h k => by
  unfold sumF at h
  split at h
  · obtain ⟨v, rfl, rv⟩ := repsL1 r
    have rr := repR_of s rv
    revert h rr
    generalize look S _ = x'
    intro h rr
    cases x' with
    | lst ys =>
      obtain ⟨bs, h1, rfl⟩ := Option.map_eq_some_iff.mp h
      obtain ⟨p, ws, rfl, g1, g2⟩ := repR_lst rr
      rw [nums_rep g2 h1] at g1
      exact ⟨p, bs, rfl, .of g1, k H _ s Ext.refl (.int _)⟩
    | _ => cases h
  · cases h
end
end Dm

set_option Elab.async false
set_option linter.all false
set_option maxRecDepth 100000
set_option autoImplicit false
set_option maxHeartbeats 1000000
/-! DmC: isinstance, dict(pairs), append, clear, stores. -/
namespace Dm
open PySem PySem.Spec L2
inductive Ty where
  | non | bool | int | str | tup | lst | dic
  deriving DecidableEq
def Ty.nm : Ty → String
  | .non => "NoneType" | .bool => "bool" | .int => "int" | .str => "str" | .tup => "tuple" | .lst => "list" | .dic => "dict"
def isaB (a b : Ty) : Bool := match a, b with
  | .bool, .int => true
  | a, b => decide (a = b)
theorem isa_kit (a b : Ty) : kitB a.nm b.nm = some (isaB a b) := by cases a <;> cases b <;> decide +kernel
def tyOf (S : Sto) (x : Vl) : Option Ty := match look S x with
  | .non => some .non
  | .bl _ => some .bool
  | .int _ => some .int
  | .str _ => some .str
  | .tup _ => some .tup
  | .ftp _ => some .tup
  | .lst _ => some .lst
  | .dk _ _ => some .dic
  | .dt _ _ => some .dic
  | _ => none
theorem ty_rep {K : PySem.W.Frag} {cl : Cl} {W : Addr → Prop} {ω : List (Option Addr)} {μ : List Addr} {S : Sto} {H : Hp} {x : Vl} {v : V} {t : Ty} (s : Sim K cl (Wo W ω) μ S H) (r : RepL K cl W ω μ H x v) (h : tyOf S x = some t) : TyX K H v (.type t.nm) := by
  have rr := repR_of s r
  unfold tyOf at h
  revert h rr
  generalize look S x = y
  intro h rr
  cases y <;> cases h
  case ftp =>
    rcases rr with rr | ⟨a, e, rr⟩
    · cases rr with
      | ftp q _ _ _ => exact .fTuple q
    · cases rr
  all_goals
    refine .base ?_
    rcases rr with rr | ⟨a, e, rr⟩
    · cases rr
      first
        | exact .non
        | exact .bl _
        | exact .int _
        | exact .str _
        | (rename_i q _ _; exact .tup q)
        | (rename_i q _ _; exact .lst q)
        | (rename_i q _ _ _; exact .dK q)
        | (rename_i q _ _ _; exact .dT q)
    · cases rr
      all_goals
        subst e
        first
          | (rename_i q _; exact .lst q)
          | (rename_i q _ _; exact .dK q)
          | (rename_i q _ _; exact .dT q)
def isiM (ts : List Ty) (m : EM) : EM := fun env S => (m env S).bind fun x S1 => match tyOf S1 x with
  | some a => .ok (.bl (ts.any (isaB a))) S1
  | none => .bad
section
variable {X : Cx} {cl : Cl} {E : XK} {e : Expr} {m : EM} {pos : Pos}
theorem de_isi1 {t : Ty} {c : Expr} {p : Pos} (he : PE X e (tL X.K cl E m)) (hc : PE X c (tC (.ty t.nm))) (hg : Gl X "isinstance") (hm : X.mg "isinstance" = none) (hv : bootBuiltins "isinstance" = some (.builtin "isinstance"))
    (hs : starEach [e, c] X.env = (false, eval e X.env) :: starEach [c] X.env := by rfl) (hs2 : starEach [c] X.env = [(false, eval c X.env)] := by rfl) (hpl : (backTo pos (starEach [c] X.env)).any (·.1) = false := by rfl) : PE X (.Call (.Name "isinstance" p) [e, c] [] pos) (tD X.K cl E (isiM [t] m)) :=
  (pe_callB call_isi hg hm hv (pa_cons he (pa_cons hc pa_nil hs2) hs) (by decide) (by decide) hs hpl).imp fun σ H Q ⟨W, ω, μ, S, env, rl, q⟩ => ⟨W, ω, μ, S, env, rl, q.bind.mono fun x S1 μ1 H1 _ s1 e1 q1 v rv => by
    cases hz : tyOf S1 x with
    | none => rw [hz] at q1; exact q1.elim
    | some a =>
      rw [hz] at q1
      refine ⟨v, .ty t.nm, .type a.nm, .type t.nm, isaB a t, rfl, .ty _, ty_rep s1 rv hz, kit_ty (isa_kit a t), ?_⟩
      have q2 := q1 μ1 H1 s1 Ext.refl (.bl (isaB a t))
      simp only [List.any_cons, List.any_nil, Bool.or_false] at q2
      exact q2 (.bl _)⟩
theorem de_isi2 {t t2 : Ty} {c c2 : Expr} {j : Nat} {p tp : Pos} (he : PE X e (tL X.K cl E m)) (hc : PE X c (tC (.ty t.nm))) (hc2 : PE X c2 (tC (.ty t2.nm))) (hg : Gl X "isinstance") (hm : X.mg "isinstance" = none) (hv : bootBuiltins "isinstance" = some (.builtin "isinstance"))
    (hs : starEach [e, .Tuple [c, c2] j tp] X.env = (false, eval e X.env) :: starEach [.Tuple [c, c2] j tp] X.env := by rfl) (hs2 : starEach [.Tuple [c, c2] j tp] X.env = [(false, eval (.Tuple [c, c2] j tp) X.env)] := by rfl) (hpl : (backTo pos (starEach [.Tuple [c, c2] j tp] X.env)).any (·.1) = false := by rfl)
    (hs3 : starEach [c, c2] X.env = (false, eval c X.env) :: starEach [c2] X.env := by rfl) (hs4 : starEach [c2] X.env = [(false, eval c2 X.env)] := by rfl) : PE X (.Call (.Name "isinstance" p) [e, .Tuple [c, c2] j tp] [] pos) (tD X.K cl E (isiM [t, t2] m)) :=
  (pe_callB call_isiT hg hm hv (pa_cons he (pa_cons (pe_tup (pa_cons hc (pa_cons hc2 pa_nil hs4) hs3)) pa_nil hs2) hs) (by decide) (by decide) hs hpl).imp fun σ H Q ⟨W, ω, μ, S, env, rl, q⟩ => ⟨W, ω, μ, S, env, rl, q.bind.mono fun x S1 μ1 H1 _ s1 e1 q1 v rv => by
    refine ⟨by show 2 ≤ sizeLine; decide, fun T hT => ?_⟩
    cases hz : tyOf S1 x with
    | none => rw [hz] at q1; exact q1.elim
    | some a =>
      rw [hz] at q1
      have sf := s1.fresh (o := .tup [V.ty t.nm, V.ty t2.nm]) hT
      have rf := RepL.mono s1 (Ext.fresh (o := .tup [V.ty t.nm, V.ty t2.nm]) hT) rv
      refine ⟨v, T, [V.ty t.nm, V.ty t2.nm], .type a.nm, [.type t.nm, .type t2.nm], [t, t2].any (isaB a), rfl, upd_same, .cons (.ty _) (.cons (.ty _) .nil), ty_rep sf rf hz, ?_, q1 μ1 _ sf (Ext.fresh hT) _ (.bl _)⟩
      refine kitAny_cons (kit_ty (isa_kit a t)) (fun h => ?_) fun h => by simp [h]
      refine kitAny_cons (kit_ty (isa_kit a t2)) (fun h2 => ?_) fun h2 => by simp [h2]
      rw [kitAny_nil]
      simp [h, h2]⟩
/-! ### dict(pairs) -/
def pairsOf : List Vl → Option (List (Key × Vl))
  | [] => some []
  | .tup [k, x] :: r => match keyV k, pairsOf r with
    | some q, some ps => some ((q, x) :: ps)
    | _, _ => none
  | _ => none
def replV (k : Key) (x : Vl) : List Key → List Vl → List Vl
  | q :: ks, y :: xs => (if q = k then x else y) :: replV k x ks xs
  | _, _ => []
def putV (ks : List Key) (xs : List Vl) (k : Key) (x : Vl) : List Key × List Vl := if (ks.any fun q => decide (q = k)) = true then (ks, replV k x ks xs) else (ks ++ [k], xs ++ [x])
def mergeV : List (Key × Vl) → List Key × List Vl → List Key × List Vl
  | [], d => d
  | (k, x) :: ps, d => mergeV ps (putV d.1 d.2 k x)
section
variable {K : PySem.W.Frag} {B : Addr → Prop} {μ : List Addr} {H : Hp}
theorem any_mem (k : Key) (kvs : List (Key × V)) : (kvs.any fun kv => decide (kv.1 = k)) = (kvs.map (·.1)).any fun q => decide (q = k) := by
  rw [List.any_map]
  rfl
theorem repl_ok {k : Key} {x : Vl} {v : V} (rx : Rep K cl B μ H x v) : ∀ {kvs : List (Key × V)} {xs : List Vl}, Reps K cl B μ H xs (kvs.map (·.2)) →
    (kvs.map fun kv => if kv.1 = k then (kv.1, v) else kv).map (·.1) = kvs.map (·.1) ∧ Reps K cl B μ H (replV k x (kvs.map (·.1)) xs) ((kvs.map fun kv => if kv.1 = k then (kv.1, v) else kv).map (·.2))
  | [], _, r => by cases r; exact ⟨rfl, .nil⟩
  | (q, w) :: kvs, _, r => by
    cases r with
    | cons r rs =>
      obtain ⟨i1, i2⟩ := repl_ok (k := k) rx rs
      by_cases hq : q = k
      · simp only [List.map_cons, replV, if_pos hq]
        exact ⟨by rw [i1], .cons rx i2⟩
      · simp only [List.map_cons, replV, if_neg hq]
        exact ⟨by rw [i1], .cons r i2⟩
theorem putV_ok {k : Key} {x : Vl} {v : V} (rx : Rep K cl B μ H x v) {kvs : List (Key × V)} {xs : List Vl} (r : Reps K cl B μ H xs (kvs.map (·.2))) :
    (putK kvs k v).map (·.1) = (putV (kvs.map (·.1)) xs k x).1 ∧ Reps K cl B μ H (putV (kvs.map (·.1)) xs k x).2 ((putK kvs k v).map (·.2)) := by
  unfold putK putV
  rw [any_mem]
  by_cases h : ((kvs.map (·.1)).any fun q => decide (q = k)) = true
  · rw [if_pos h, if_pos h]
    exact repl_ok rx r
  · rw [if_neg h, if_neg h]
    exact ⟨by simp, by rw [List.map_append]; exact r.snoc rx⟩
theorem merge_ok : ∀ {ps : List (Key × Vl)} {kws : List (Key × V)} {kvs : List (Key × V)} {d : List Key × List Vl}, kws.map (·.1) = ps.map (·.1) → Reps K cl B μ H (ps.map (·.2)) (kws.map (·.2)) → kvs.map (·.1) = d.1 → Reps K cl B μ H d.2 (kvs.map (·.2)) →
    (mergeK kvs kws).map (·.1) = (mergeV ps d).1 ∧ Reps K cl B μ H (mergeV ps d).2 ((mergeK kvs kws).map (·.2))
  | [], [], kvs, d, _, _, e, r => ⟨e, r⟩
  | [], _ :: _, _, _, h, _, _, _ => by cases h
  | _ :: _, [], _, _, h, _, _, _ => by cases h
  | (k, x) :: ps, (k2, v) :: kws, kvs, (ks, xs), h, rr, e, r => by
    rw [List.map_cons, List.map_cons] at h
    injection h with h1 h2
    have h1' : k2 = k := h1
    subst h1'
    cases rr with
    | cons ra rs =>
      have e' : kvs.map (·.1) = ks := e
      subst e'
      obtain ⟨p1, p2⟩ := putV_ok (k := k2) ra r
      exact merge_ok (ps := ps) (kws := kws) (kvs := putK kvs k2 v) (d := putV (kvs.map (·.1)) xs k2 x) h2 rs p1 p2
end
def dictF : FA := fun S xs => match xs with
  | [x] => (match look S x with
    | .lst ys => (pairsOf ys).map fun ps => let d := mergeV ps ([], []); .dk d.1 d.2
    | _ => none)
  | _ => none
theorem key_repS {K : PySem.W.Frag} {B : Addr → Prop} {μ : List Addr} {H : Hp} {x : Vl} {v : V} {k : Key} (r : Rep K cl B μ H x v) (h : keyV x = some k) : v = kV k := by
  cases r <;> cases h <;> rfl
theorem pairs_rep {K : PySem.W.Frag} {B : Addr → Prop} {μ : List Addr} {H : Hp} : ∀ {ys : List Vl} {vs : List V} {ps : List (Key × Vl)}, Reps K cl B μ H ys vs → pairsOf ys = some ps →
    ∃ (as : List Addr) (kws : List (Key × V)), vs = as.map V.ref ∧ Paired (fun p kv => SqT K H p [kV kv.1, kv.2]) as kws ∧ kws.map (·.1) = ps.map (·.1) ∧ Reps K cl B μ H (ps.map (·.2)) (kws.map (·.2))
  | _, _, _, .nil, h => by
    cases h
    exact ⟨[], [], rfl, .nil, rfl, .nil⟩
  | _, _, ps, .cons (x := x) r rs, h => by
    unfold pairsOf at h
    split at h
    · cases ‹_ :: _ = []›
    · rename_i k y r' hx
      injection hx with hx1 hx2
      subst hx1 hx2
      split at h
      · rename_i q ps' hk hp
        cases h
        obtain ⟨as, kws, e1, e2, e3, e4⟩ := pairs_rep rs hp
        cases r with
        | tup h1 h2 h3 =>
          cases h3 with
          | cons rk r3 =>
            cases r3 with
            | cons ry r4 =>
              cases r4
              have ek := key_repS rk hk
              subst ek
              refine ⟨_ :: as, (q, _) :: kws, by rw [List.map_cons, e1], .cons (.of h1) e2, by rw [List.map_cons, List.map_cons, e3], .cons ry e4⟩
      · cases h
    · cases h
def rDictP (K : PySem.W.Frag) : List V → Hp → VK → Prop := fun xs H Q => ∃ (a : Addr) (ps : List Addr) (kvs : List (Key × V)), xs = [.ref a] ∧ SqL K H a (ps.map V.ref) ∧ Paired (fun p kv => SqT K H p [kV kv.1, kv.2]) ps kvs ∧
    ∀ p, H p = none → Q (.ref p) (upd H p (.dK (mergeK [] kvs)))
theorem s_dict : OpAN X cl (rDictP X.K) dictF := fun W ω μ S H xs z vs Q s r h k => by
  unfold dictF at h
  split at h
  · obtain ⟨v, rfl, rv⟩ := repsL1 r
    have rr := repR_of s rv
    revert h rr
    generalize look S _ = x'
    intro h rr
    cases x' with
    | lst ys =>
      obtain ⟨ps, h1, rfl⟩ := Option.map_eq_some_iff.mp h
      obtain ⟨p, ws, rfl, g1, g2⟩ := repR_lst rr
      obtain ⟨as, kws, e1, e2, e3, e4⟩ := pairs_rep g2 h1
      subst e1
      obtain ⟨m1, m2⟩ := merge_ok (kvs := []) (d := ([], [])) e3 e4 rfl .nil
      exact ⟨p, as, kws, rfl, .of g1, e2, fun t ht => k t _ ht (.dk m1 m2)⟩
    | _ => cases h
  · cases h
/-! ### an own list, changed -/
def appO (i : Nat) (m : EM) : SM := fun env S => match env[i]? with
  | some (.ow (.lst xs)) => (m env S).bind fun x S1 => if xs.length < 16777216 then .ok (.nx (env.set i (.ow (.lst (xs ++ [x]))))) S1 else .bad
  | _ => .bad
variable {st : Stmt} {i : Nat}
theorem own_lst {K : PySem.W.Frag} {W : Addr → Prop} {ω : List (Option Addr)} {μ : List Addr} {S : Sto} {env : List Sv} {σ : St} {H : Hp} {xs : List Vl} (rl : Rl K cl W ω μ S env σ H) (he : env[i]? = some (.ow (.lst xs))) : ∃ a vs, ω[i]? = some (some a) ∧ σ[i]? = some (some (.ref a)) ∧ H a = some (.lst vs) ∧ Reps K cl (Bn (Wo W ω) μ) μ H xs vs := by
  obtain ⟨o, s, h1, h2, a, h3, h4, h5⟩ := rl.slot he
  subst h4
  subst h3
  cases h5 with
  | lst g1 g2 => exact ⟨a, _, h1, h2, g1, g2⟩
theorem ds_appO {te : TE} (h : PS X st (tDrop (tBM X.K "list" rAppend (tVar i) (tCons te tNil)))) (hi : ∀ σ H Q, tD X.K cl E m σ H Q → te σ H Q) : PS X st (tS X.K cl E (appO i m)) := h.imp fun D σ H ⟨W, ω, μ, S, env, rl, q⟩ => by
  unfold appO at q
  split at q
  · rename_i xs he
    obtain ⟨a, vs, h1, h2, h3, h4⟩ := own_lst rl he
    refine ⟨.ref a, h2, .inl ⟨rfl, vs, .of h3⟩, hi _ _ _ ⟨W, ω, μ, S, env, rl, q.ofG.mono fun x S1 μ1 H1 _ s1 e1 q1 v rv => ?_⟩⟩
    have r1 := rl.ext e1 s1
    obtain ⟨a', ws, g1, g2, g3, g4⟩ := own_lst r1 he
    rw [h1] at g1
    cases g1
    split at q1
    · obtain ⟨r2, e2⟩ := r1.upd he h1 (.lst (g4.snoc rv))
      exact ⟨a, ws, v, rfl, rfl, g3, by rw [sizeLine_eq, ← g4.length]; assumption, q1 ω μ1 σ _ r2 e2⟩
    · exact q1.elim
  · exact q.elim
def clrO (i : Nat) : SM := fun env S => match env[i]? with
  | some (.ow (.lst _)) => .ok (.nx (env.set i (.ow (.lst [])))) S
  | _ => .bad
theorem ds_clrO (h : PS X st (tDrop (tBM0 X.K "list" rClear (tVar i)))) : PS X st (tS X.K cl E (clrO i)) := h.imp fun D σ H ⟨W, ω, μ, S, env, rl, q⟩ => by
  unfold clrO at q
  split at q
  · rename_i xs he
    obtain ⟨a, vs, h1, h2, h3, h4⟩ := own_lst rl he
    obtain ⟨r2, e2⟩ := rl.upd he h1 (y := .lst []) (o := .lst []) (.lst .nil)
    exact ⟨.ref a, h2, .inl ⟨rfl, vs, .of h3⟩, a, vs, rfl, rfl, h3, q ω μ σ _ r2 e2⟩
  · exact q.elim
/-! ### a shared list's place stored: o[i] = e -/
def setR (mo mi mv : EM) : SM := fun env S => (mv env S).bind fun x S1 => (mo env S1).bind fun o S2 => (mi env S2).bind fun j S3 => match o, j with
  | .ref n, .int k => (match S3[n]? with
    | some (.lst xs) => (match ixN xs.length k with
      | some t => .ok (.nx env) (S3.set n (.lst (xs.set t x)))
      | none => .bad)
    | _ => .bad)
  | _, _ => .bad
theorem ds_setR {mo mi mv : EM} {tv to ti : TE} (h : PS X st (tAsg tv (gSub to ti rSetL))) (hv : ∀ σ H Q, tD X.K cl E mv σ H Q → tv σ H Q) (ho : ∀ σ H Q, tD X.K cl E mo σ H Q → to σ H Q) (hi : ∀ σ H Q, tD X.K cl E mi σ H Q → ti σ H Q) : PS X st (tS X.K cl E (setR mo mi mv)) := h.imp fun D σ H ⟨W, ω, μ, S, env, rl, q⟩ => by
  refine hv _ _ _ ⟨W, ω, μ, S, env, rl, q.ofG.mono fun x S1 μ1 H1 _ s1 e1 q1 v rv => ?_⟩
  refine ho _ _ _ ⟨W, ω, μ1, S1, env, rl.ext e1 s1, q1.ofG.mono fun o S2 μ2 H2 _ s2 e2 q2 w rw' => ?_⟩
  refine hi _ _ _ ⟨W, ω, μ2, S2, env, (rl.ext e1 s1).ext e2 s2, q2.ofG.mono fun j S3 μ3 H3 _ s3 e3 q3 u ru => ?_⟩
  cases o with
  | ref n =>
    cases j with
    | int k =>
      dsimp only at q3
      cases hx : S3[n]? with
      | none => rw [hx] at q3; exact q3.elim
      | some y =>
        rw [hx] at q3
        cases y with
        | lst xs =>
          dsimp only at q3
          cases ht : ixN xs.length k with
          | none => rw [ht] at q3; exact q3.elim
          | some t =>
            rw [ht] at q3
            obtain ⟨a, g1, g2⟩ := s3.obs n _ hx
            cases g2 with
            | @lst _ vs g2 g3 =>
              have rw3 := rw'.mono e3.kp
              cases rw3 with
              | ref hn =>
                rw [g1] at hn
                cases hn
                cases ru
                obtain ⟨s4, e4⟩ := s3.upd g1 (y := .lst (xs.set t x)) (o := .lst (vs.set t v)) (.lst (Reps.set ((rv.mono e2.kp).mono e3.kp) t g3))
                exact ⟨a, vs, k, t, rfl, rfl, g2, by rw [← g3.length]; exact ht, q3 ω μ3 σ _ ((((rl.ext e1 s1).ext e2 s2).ext e3 s3).ext e4 s4) e4.s⟩
        | _ => exact q3.elim
    | _ => exact q3.elim
  | _ => exact q3.elim
end
end Dm

set_option Elab.async false
set_option linter.all false
set_option maxRecDepth 100000
set_option autoImplicit false
set_option maxHeartbeats 1000000
/-! DmD: instances: fields, __init__, making, methods, == of one's own. -/
namespace Dm
open PySem PySem.Spec L2
/-! ### fields -/
def fGet : List Str → List Vl → Str → Option Vl
  | n :: ns, x :: xs, f => if f = n then some x else fGet ns xs f
  | _, _, _ => none
def fPut : List Str → List Vl → Str → Vl → List Str × List Vl
  | n :: ns, y :: xs, f, x => if n = f then (n :: ns, x :: xs) else ((n :: (fPut ns xs f x).1), (y :: (fPut ns xs f x).2))
  | _, _, f, x => ([f], [x])
section
variable {K : PySem.W.Frag} {cl : Cl} {B : Addr → Prop} {μ : List Addr} {H : Hp}
theorem fGet_ok {f : Str} : ∀ {fs : List (Str × V)} {xs : List Vl}, Reps K cl B μ H xs (fs.map (·.2)) → (∀ x, fGet (fs.map (·.1)) xs f = some x → ∃ v, fs.lookup f = some v ∧ Rep K cl B μ H x v) ∧ (fGet (fs.map (·.1)) xs f = none → fs.lookup f = none)
  | [], xs, r => by
    cases r
    refine ⟨?_, fun _ => rfl⟩
    intro x h
    simp only [List.map_nil, fGet] at h
    cases h
  | (n, w) :: fs, _, r => by
    cases r with
    | cons r rs =>
      obtain ⟨i1, i2⟩ := fGet_ok (f := f) rs
      by_cases h : f = n
      · refine ⟨fun x q => ?_, fun q => ?_⟩
        · simp only [List.map_cons, fGet, if_pos h] at q
          cases q
          exact ⟨w, by simp [List.lookup, h], r⟩
        · simp only [List.map_cons, fGet, if_pos h] at q
          cases q
      · have hb : (f == n) = false := by simpa using h
        refine ⟨fun x q => ?_, fun q => ?_⟩
        · simp only [List.map_cons, fGet, if_neg h] at q
          obtain ⟨v, e1, e2⟩ := i1 x q
          exact ⟨v, by simp [List.lookup, hb, e1], e2⟩
        · simp only [List.map_cons, fGet, if_neg h] at q
          simp [List.lookup, hb, i2 q]
theorem fPut_ok {f : Str} {x : Vl} {v : V} (rx : Rep K cl B μ H x v) : ∀ {fs : List (Str × V)} {xs : List Vl}, Reps K cl B μ H xs (fs.map (·.2)) → (putF f v fs).map (·.1) = (fPut (fs.map (·.1)) xs f x).1 ∧ Reps K cl B μ H (fPut (fs.map (·.1)) xs f x).2 ((putF f v fs).map (·.2))
  | [], xs, r => by
    cases r
    exact ⟨rfl, .cons rx .nil⟩
  | (n, w) :: fs, _, r => by
    cases r with
    | cons r rs =>
      obtain ⟨i1, i2⟩ := fPut_ok rx rs
      unfold putF
      by_cases h : n = f
      · simp only [List.map_cons, fPut, if_pos h]
        exact ⟨by first | rfl | simp [h], .cons rx rs⟩
      · simp only [List.map_cons, fPut, if_neg h]
        exact ⟨by rw [i1], .cons r i2⟩
end
section
variable {X : Cx} {cl : Cl} {E : XK} {e : Expr} {m : EM} {pos : Pos} {st : Stmt} {i c : Nat} {f : Str}
/-- e.f, e an instance of the class number c -/
def fldM (c : Nat) (f : Str) (m : EM) : EM := fun env S => (m env S).bind fun x S1 => match look S1 x with
  | .ins d ns xs => if d = c then (match fGet ns xs f with | some y => .ok y S1 | none => .bad) else .bad
  | _ => .bad
theorem de_fld (he : PE X e (tL X.K cl E m)) (hc : Cls X.K (cl c)) (hn : NoAttr X.K (cl c) f) (hb : attributeBase e f X.env (eval e X.env) = eval e X.env := by rfl) : PE X (.Attribute e f pos) (tD X.K cl E (fldM c f m)) := (pe_fld he hb).imp fun σ H Q ⟨W, ω, μ, S, env, rl, q⟩ =>
  ⟨W, ω, μ, S, env, rl, q.bind.mono fun x S1 μ1 H1 _ s1 e1 q1 v rv => by
    have rr := repR_of s1 rv
    revert q1 rr
    generalize look S1 x = y
    intro q1 rr
    cases y with
    | ins d ns xs =>
      dsimp only at q1
      by_cases hd : d = c
      · rw [if_pos hd] at q1
        subst hd
        obtain ⟨a, dx, fs, e2, h1, h2, h3⟩ := repR_ins rr
        subst h2
        cases hg : fGet (fs.map (·.1)) xs f with
        | none => rw [hg] at q1; exact q1.elim
        | some w =>
          rw [hg] at q1
          obtain ⟨u, g1, g2⟩ := (fGet_ok h3).1 w hg
          exact ⟨a, cl d, dx, fs, u, e2, h1, hc, hn, g1, q1 μ1 H1 s1 Ext.refl u g2⟩
      · rw [if_neg hd] at q1
        exact q1.elim
    | _ => exact q1.elim⟩
/-- self.f = e, in __init__ -/
def sfS (c : Nat) (f : Str) (i : Nat) (m : EM) : SM := fun env S => (m env S).bind fun x S1 => match env[i]? with
  | some (.sf a (.ins d ns xs)) => if d = c ∧ ns.length < 1000 then .ok (.nx (env.set i (.sf a (.ins c (fPut ns xs f x).1 (fPut ns xs f x).2)))) S1 else .bad
  | _ => .bad
theorem ds_sf {tv : TE} (h : PS X st (sFld X.K (tVar i) tv f)) (hi : ∀ σ H Q, tD X.K cl E m σ H Q → tv σ H Q) (hc : Cls X.K (cl c)) (hn : NoAttr X.K (cl c) f) : PS X st (tS X.K cl E (sfS c f i m)) := h.imp fun D σ H ⟨W, ω, μ, S, env, rl, q⟩ =>
  hi _ _ _ ⟨W, ω, μ, S, env, rl, q.ofG.mono fun x S1 μ1 H1 _ s1 e1 q1 v rv => by
    have r1 := rl.ext e1 s1
    split at q1
    · rename_i a d ns xs he
      split at q1
      · rename_i hd
        obtain ⟨hd, hl⟩ := hd
        subst hd
        obtain ⟨o, s, h1, h2, h3, h4, h5⟩ := r1.slot he
        subst h3
        subst h4
        cases h5 with
        | @ins _ _ _ dx fs h5 h6 h7 =>
          subst h6
          obtain ⟨p1, p2⟩ := fPut_ok (f := f) rv h7
          obtain ⟨r2, e2⟩ := r1.updS he (y := .ins d (fPut (fs.map (·.1)) xs f x).1 (fPut (fs.map (·.1)) xs f x).2) (o := .ins (cl d) dx (putF f v fs)) (.ins p1 p2)
          exact ⟨.ref a, h2, a, cl d, dx, fs, rfl, h5, hc, hn, by simpa using hl, q1 ω μ1 σ _ r2 e2⟩
      · exact q1.elim
    · exact q1.elim⟩
/-! ### __init__ -/
def startI (N c : Nat) (a : Addr) (args : List Vl) : List Sv := .sf a (.ins c [] []) :: (args.map .v ++ List.replicate (N - (args.length + 1)) .un)
def selfOf (a : Addr) : List Sv → Option Vl
  | .sf b x :: _ => if b = a then some x else none
  | _ => none
def runI (N c : Nat) (b : SM) (a : Addr) (args : List Vl) (S : Sto) : Res Vl := (b (startI N c a args) S).bind fun fl S' => match fl with
  | .nx env => (match selfOf a env with
    | some x => .ok x S'
    | none => .bad)
  | _ => .bad
def spI (K : PySem.W.Frag) (cl : Cl) (c n : Nat) (f : Addr → List Vl → Sto → Res Vl) : Sp := fun vs H Q E => ∃ W μ S args a dx vr, vs = .ref a :: vr ∧ Sim K cl (Wa W a) μ S H ∧ ¬ W a ∧ H a = some (.ins (cl c) dx []) ∧ Reps K cl (Bn (Wa W a) μ) μ H args vr ∧ args.length = n ∧
  (match f a args S with
    | .ok x S' => ∀ μ' H', Sim K cl (Wa W a) μ' S' H' → ExtS [some a] μ H [some a] μ' H' → At K cl (Bn (Wa W a) μ') μ' H' a x → Q .non H'
    | .exc d ns xs S' => ∀ μ' H' p, Sim K cl W μ' S' H' → ExtS [some a] μ H [] μ' H' → XFs K cl (Bn W μ') μ' H' p ns xs → E (.ref (cl d)) (some p) H'
    | .bad => False)
theorem spI_len {K : PySem.W.Frag} {n : Nat} {g : Addr → List Vl → Sto → Res Vl} {vs : List V} {H : Hp} {Q : VK} {E : XK} (h : spI K cl c n g vs H Q E) : vs.length = n + 1 := by
  obtain ⟨W, μ, S, args, a, dx, vr, rfl, _, _, _, r, l, _⟩ := h
  rw [List.length_cons, ← r.length, l]
theorem init_ok {K : PySem.W.Frag} {N : List Str} {b : SM} {n : Nat} {vs : List V} {H : Hp} {Q : VK} {E : XK} (h : spI K cl c n (runI N.length c b) vs H Q E) : tS K cl E b { nx := fun _ H' => Q .non H', rt := Q } (L2.start N vs) H := by
  obtain ⟨W, μ, S, args, a, dx, vr, rfl, s, nw, ha, r, hl, q⟩ := h
  have no : ∀ {n : Nat} {b : Addr}, some b ∉ List.replicate n (none : Option Addr) := fun z => nomatch (List.eq_of_mem_replicate z)
  let M := (L2.start N (.ref a :: vr)).length - 1
  have hM : (L2.start N (V.ref a :: vr)).length = M + 1 := by simp [L2.start, M]
  have memo : ∀ {b : Addr}, some b ∈ (some a :: List.replicate M none) ↔ b = a := fun {b} => by
    constructor
    · intro z
      rcases List.mem_cons.mp z with z | z
      · exact Option.some.inj z
      · exact (no z).elim
    · intro z
      rw [z]
      exact List.mem_cons_self ..
  have sub1 : ∀ b, Wo W (some a :: List.replicate M none) b → Wa W a b := fun b z => z.elim .inl fun z => .inr (memo.mp z)
  have e1 : ∀ {ω' : List (Option Addr)} {μ' : List Addr} {H' : Hp}, ExtS (some a :: List.replicate M none) μ H ω' μ' H' → ∀ ω'' : List (Option Addr), (∀ b, some b ∈ ω'' → b = a ∨ some b ∈ ω') → ExtS [some a] μ H ω'' μ' H' := fun e ω'' hw => ⟨fun b o q n n' => e.keep b o q n fun z => n' (by rw [memo.mp z]; simp), e.dom, e.pre, fun b z => by
    rcases z with z | z
    · rcases e.new b (.inl z) with z | z | z
      · exact .inl z
      · exact .inr (.inl (by rw [memo.mp z]; simp))
      · exact .inr (.inr z)
    · rcases hw b z with z | z
      · exact .inr (.inl (by rw [z]; simp))
      · rcases e.new b (.inr z) with z | z | z
        · exact .inl z
        · exact .inr (.inl (by rw [memo.mp z]; simp))
        · exact .inr (.inr z)⟩
  have rl : Rl K cl W (some a :: List.replicate M none) μ S (startI N.length c a args) (L2.start N (.ref a :: vr)) H := by
    refine ⟨s.weak sub1, ?_, by rw [hM]; simp, fun i x o t h1 h2 h3 => ?_, fun i j b h1 h2 => ?_, fun b z => by rw [memo.mp z]; exact nw⟩
    · simp [startI, L2.start, r.length]
    · cases i with
      | zero =>
        have h3' : some (some (V.ref a)) = some t := h3
        cases h1
        cases h2
        cases h3'
        exact ⟨rfl, rfl, .ins ha rfl .nil⟩
      | succ i =>
        have ho : o = none := by
          have : (List.replicate M (none : Option Addr))[i]? = some o := by simpa using h2
          exact List.eq_of_mem_replicate (List.mem_of_getElem? this)
        have h1' : (args.map Sv.v ++ List.replicate (N.length - (args.length + 1)) .un)[i]? = some x := by simpa [startI] using h1
        have h3' : (vr.map some ++ List.replicate (N.length - (vr.length + 1)) none)[i]? = some t := by simpa [L2.start] using h3
        by_cases hi : i < args.length
        · rw [List.getElem?_append_left (by simpa using hi), List.getElem?_map] at h1'
          rw [List.getElem?_append_left (by simpa [← r.length] using hi), List.getElem?_map] at h3'
          obtain ⟨y, hy, rfl⟩ := Option.map_eq_some_iff.mp h1'
          obtain ⟨w, hw, rfl⟩ := Option.map_eq_some_iff.mp h3'
          obtain ⟨w', g1, g2⟩ := r.get hy
          rw [hw] at g1
          cases g1
          exact ⟨ho, w, rfl, g2.mono (Kp.weak sub1)⟩
        · rw [List.getElem?_append_right (by simpa using hi), List.getElem?_replicate] at h1'
          split at h1'
          · cases h1'; exact ho
          · cases h1'
    · have z : ∀ l : Nat, (some a :: List.replicate M (none : Option Addr))[l]? = some (some b) → l = 0 := fun l q => by
        cases l with
        | zero => rfl
        | succ l =>
          have : (List.replicate M (none : Option Addr))[l]? = some (some b) := by simpa using q
          exact (no (List.mem_of_getElem? this)).elim
      rw [z i h1, z j h2]
  refine ⟨W, _, μ, S, startI N.length c a args, rl, ?_⟩
  unfold runI at q
  revert q
  generalize b (startI N.length c a args) S = t
  intro q
  cases t with
  | bad => exact q
  | exc d ns xs S' => exact fun μ' H' p s' e' x => q μ' H' p s' (e1 e' [] fun _ z => nomatch z) x
  | ok fl S' =>
    cases fl with
    | nx env =>
      intro ω' μ' σ' H' r' e'
      dsimp only [Res.bind] at q
      cases hs : selfOf a env with
      | none => rw [hs] at q; exact q.elim
      | some x =>
        rw [hs] at q
        have h0 : env[0]? = some (.sf a x) := by
          unfold selfOf at hs
          split at hs
          · split at hs
            · rename_i haa
              cases hs
              rw [haa]
              rfl
            · cases hs
          · cases hs
        obtain ⟨o, s, h1, h2, h3, h4, h5⟩ := r'.slot h0
        subst h3
        have sub3 : ∀ b, Wa W a b → Wo W ω' b := fun b z => z.elim .inl fun z => .inr (by rw [z]; exact List.mem_of_getElem? h1)
        exact q μ' H' (r'.sim.weak sub3) (e1 e' [some a] fun b z => .inl (by simpa using z)) (h5.mono (Kp.weak sub3) fun _ q => q)
    | bk env => exact q.elim
    | ct env => exact q.elim
    | rt x => exact q.elim
end
section
variable {P : Program} {w : World} {K : PySem.W.Frag} {mg : Str → Option Value} {base : Heap}
/-- THE RULE for an __init__ -/
theorem init_fn {cl : Cl} {c : Nat} {x qual : Str} {params : Arguments} {body : List Stmt} {scope : Scope} {dvs : List V} {kws : List (Str × V)} {f : Addr} {fd : FuncData} {N ps : List Str} {k n : Nat} {b : SM} (F : FunD K x qual params body scope dvs kws f fd) (S : FnScope N ps scope) (hn : ps.length = n + 1)
    (h : ∀ (cdv : Value) (A : Around) (outer : List Env) (s : Shared) (H : Hp) (E : XK), Room k (A.deeper (PyProof.Rows.envOfC qual scope s.heap.objs.size f cdv)) → PSs (cxOf (L2.CX P w) P w K mg base N qual scope f cdv A outer s H E) body (tS K cl E b)) :
    FnOk P w K mg base (L2.CX P w) (k + 1) f fd ps (spI K cl c n (runI N.length c b)) :=
  F.ok S (fun vs H Q E h => (spI_len h).trans hn.symm) fun cdv A outer s H vs Q E hr hsp => ⟨_, h cdv A outer s H E hr, init_ok hsp⟩
end
section
variable {X : Cx} {cl : Cl} {E : XK} {mA mK : AM} {c n : Nat} {f : Addr → List Vl → Sto → Res Vl}
/-- C(..): a new instance; f is the class's __init__, whatever the address -/
def makeM (f : Addr → List Vl → Sto → Res Vl) (a : AM) : EM := fun env S => (a env S).bind fun xs S1 => f 0 xs S1
/-- the address does not matter -/
def Blind (f : Addr → List Vl → Sto → Res Vl) : Prop := ∀ a b xs S, f a xs S = f b xs S
theorem make_core (hb : Blind f) {W : Addr → Prop} {ω : List (Option Addr)} {μ : List Addr} {S : Sto} {H : Hp} {Q : VK} {xs : List Vl} {vs : List V} (s : Sim X.K cl (Wo W ω) μ S H) (rs : Reps X.K cl (Bn (Wo W ω) μ) μ H xs vs) (hl : xs.length = n)
    (q : SatG X.K cl (Wo W ω) μ H (f 0 xs S) (fun x S' μ' H' => ∀ a, H a = none → Sim X.K cl (Wa (Wo W ω) a) μ' S' H' → At X.K cl (Bn (Wa (Wo W ω) a) μ') μ' H' a x → Q (.ref a) H') E) (x dx : Addr) (hx : H x = none) (hdx : H dx = none) (hne : dx ≠ x) :
    spI X.K cl c n f (.ref x :: vs) (upd (upd H dx (.own x)) x (.ins (cl c) dx [])) (fun v H2 => v = .non ∧ Q (.ref x) H2) E := by
  have hx2 : upd H dx (HO.own x) x = none := by rw [upd_ne hne.symm]; exact hx
  have s2 : Sim X.K cl (Wa (Wo W ω) x) μ S (upd (upd H dx (.own x)) x (.ins (cl c) dx [])) := (s.fresh hdx).freshBan hx2 fun z => s.tracked (.inl z) hx
  have x2 : ∀ {μ' : List Addr} {H' : Hp} {ω' : List (Option Addr)}, ExtS [some x] μ (upd (upd H dx (.own x)) x (.ins (cl c) dx [])) ω' μ' H' → Ext μ H μ' H' := fun {μ' H' ω'} e => by
    have d1 : ∀ b, H b ≠ none → upd (upd H dx (.own x)) x (.ins (cl c) dx []) b ≠ none := fun b hbn => (Ext.fresh (μ := μ) hx2).dom b ((Ext.fresh (μ := μ) hdx).dom b hbn)
    refine ⟨fun b o hbo n => e.keep b o (by rw [upd_ne (ne_of_none hbo hx), upd_ne (ne_of_none hbo hdx)]; exact hbo) n fun z => ?_, fun b hbn => e.dom b (d1 b hbn), e.pre, fun b hbm => ?_⟩
    · have : b = x := by simpa using z
      rw [this, hx] at hbo
      cases hbo
    · rcases e.new b (.inl hbm) with z | z | z
      · exact .inl z
      · have : b = x := by simpa using z
        rw [this]
        exact .inr hx
      · refine .inr ?_
        cases hh : H b with
        | none => rfl
        | some o => exact absurd z (d1 b (by rw [hh]; simp))
  refine ⟨Wo W ω, μ, S, xs, x, dx, vs, rfl, s2, fun z => s.trk x z hx, upd_same, (rs.mono (Ext.fresh hdx).kp).mono (Ext.kpBan hx2), hl, ?_⟩
  rw [hb x 0]
  revert q
  generalize f 0 xs S = r
  intro q
  cases r with
  | bad => exact q
  | exc d ns ys S' => exact fun μ' H' p s' e' xf => q μ' H' p s' (x2 e') xf
  | ok y S' => exact fun μ' H' s' e' at_ => ⟨rfl, q μ' H' (s'.weak fun _ z => .inl z) (x2 e') x hx s' at_⟩
theorem make_t (hb : Blind f) (hn : LenA mA n) {σ : St} {H : Hp} {Q : VK} (h : tN X.K cl E (makeM f mA) σ H Q) : tMake (cl c) (spI X.K cl c n f) [] E (tDA X.K cl E mA) σ H Q := by
  obtain ⟨W, ω, μ, S, env, rl, q⟩ := h
  refine ⟨W, ω, μ, S, env, rl, q.bind.mono fun xs S1 μ1 H1 ee s1 e1 q1 vs rs x dx hx hdx hne => ?_⟩
  rw [List.append_nil]
  refine make_core hb s1 rs (hn _ _ _ _ ee) (q1.mono fun y S2 μ2 H2 _ s2 e2 q2 a ha => q2 a (fresh_back e1 ha)) x dx hx hdx hne
end
end Dm

set_option Elab.async false
set_option linter.all false
set_option maxRecDepth 100000
set_option autoImplicit false
set_option maxHeartbeats 1000000
/-! DmE: own == and !=, methods, loose calls. -/
namespace Dm
open PySem PySem.Spec L2
/-! ### x != y of a class with its own == and no != -/
section
variable {prog : Program} {w : World} {A : Around} {E : Value → Shared → Prop} {s : Shared} {K : PySem.W.Frag} {x C L f : Addr} {h₀ : Heap} {m : Str → Option Value} {ox : Obj} {od : Option Obj} {b tb : Value}
theorem ifBound_ob {M : Model} {args : List Value} {Q : Option Value → Shared → Prop} (X : K.In s.heap) (I : PySem.W.InstAt s.heap x ox C od) (hs : PySem.W.findIn K (.ref C) "__ne__" = some (some (.builtin "object.__ne__")))
    (h : wpAny M A (call (.builtin "object.__ne__") (.ref x :: args)) (fun v => Q (some v)) E s) : wpAny M A (callSpecialIfBound? (.ref x) "__ne__" args) Q E s := by
  simp only [callSpecialIfBound?, bindSpecialIfBound?]
  refine wpAny_holding (wpAny_bind (wpAny_bind (wpAny_bind (I.type.here ((PySem.W.looks_findIn X hs).here ?_)))))
  refine wpAny_bind (wpAny_askSetting (wpAny_ite ?_))
  have fin : wpAny M A (call (.builtin "object.__ne__") ([.ref x] ++ args) >>= fun v => pure (some v)) Q E s := wpAny_bind (wpAny_mono h (fun v s' h' => wpAny_pure h') fun _ _ h' => h')
  split
  · rw [PySem.F.cmp_object.ne.bind]
    exact wpAny_bind (wpAny_pure (wpAny_pure (by exact fin)))
  · rw [PySem.F.cmp_object.ne.bind]
    exact wpAny_tryCatch (wpAny_bind (wpAny_pure (wpAny_pure (by exact fin))))
theorem objNe_K (hu : A.units < cLine) (X : K.In s.heap) (I : PySem.W.InstAt s.heap x ox C od) (hs : PySem.W.findIn K (.ref C) "__eq__" = some (some (.ref f))) (hf : PySem.W.isFn K (.ref f) = true) {Q : Fin → Shared → Prop}
    (hcall : wpAny (model prog w) A (call (.ref f) [.ref x, b]) (fun v s' => ∃ k, v = .bool k ∧ Q (.done (.ret (.bool (!k)))) s') E s) :
    wpAny (model prog w) A (Builtin.«object.__ne__» ⟨[.ref x, b], []⟩) Q E s := by
  unfold Builtin.«object.__ne__»
  repeat (first
    | with_reducible refine wpAny_cRoomFor hu ?_
    | (refine wpAny_bind (m := callSpecialIfBound? (.ref x) (Str.ofString "__eq__") [b])
        (PySem.W.ifBound_K X I hs hf (wpAny_mono hcall (fun r s' hr => by
          obtain ⟨k, rfl, hq⟩ := hr
          repeat (first | exact hq | exact wpAny_pure hq | exact wpAny_truthy_bool hq | (refine wpAny_bind (m := truthy (.bool _)) (wpAny_truthy_bool ?_)) | wp_step)) fun _ _ e => e)))
    | wp_step)
theorem ne_K {Q : Value → Shared → Prop} (hu : A.units + 1 < cLine) (X : K.In s.heap) (I : PySem.W.InstAt s.heap x ox C od) (hb : PySem.W.Looks (model prog w) s.heap (typeOf b) tb) (hn : PySem.W.notFirst K C tb = true)
    (hne : PySem.W.findIn K (.ref C) "__ne__" = some (some (.builtin "object.__ne__"))) (hs : PySem.W.findIn K (.ref C) "__eq__" = some (some (.ref f))) (hf : PySem.W.isFn K (.ref f) = true) (ho : PySem.W.subIn K (.ref C) (.type "object") = some true)
    (h : wpAny (model prog w) A.in1 (call (.ref f) [.ref x, b]) (fun v s' => ∃ k, v = .bool k ∧ Q (.bool (!k)) s') E s) : wpAny (model prog w) A (richCompare .NotEq (.ref x) b) Q E s := by
  have one : wpAny (model prog w) A (tryCompare (.ref x) "__ne__" b) (fun r s' => ∃ v, r = some v ∧ Q v s') E s := by
    unfold tryCompare
    refine wpAny_bind (ifBound_ob X I hne (wpAny_call (codeAny_call_builtin PySem.F.cmp_object.ne.plain PySem.F.cmpEntry_ne
      (PySem.W.check_slot PySem.F.cmpKind_ne PySem.F.cmpSplit_ne (I.type.andThen (PySem.W.looks_subIn X ho)) (PySem.F.cmpArgs_ne _ _)
        (objNe_K (A := A.in1) hu X I hs hf (wpAny_mono h (fun v s' hv => ?_) fun _ _ e => e))))))
    obtain ⟨k, rfl, hq⟩ := hv
    exact ⟨k, rfl, wpAny_pure ⟨_, rfl, hq⟩⟩
  unfold richCompare
  simp only [oneThing_ref]
  refine wpAny_holding (wpAny_bind (wpAny_cRoomFor (Nat.lt_of_succ_lt hu) ?_))
  rw [cmpInfo_NotEq]
  dsimp only
  refine wpAny_bind (I.type.here (wpAny_bind (hb.here ?_)))
  split
  · rename_i q
    have e : PySem.W.subIn K tb (.ref C) = some false := by
      rcases Bool.or_eq_true_iff.mp hn with e | e
      · rw [beq_iff_eq.mp e] at q; simp at q
      · exact beq_iff_eq.mp e
    refine wpAny_bind ((PySem.W.looks_subIn X e).here ?_)
    simp only [Bool.false_eq_true, if_false]
    refine wpAny_bind (wpAny_mono one (fun r s' z => ?_) fun _ _ e => e)
    obtain ⟨v, rfl, hq⟩ := z
    exact wpAny_pure hq
  · refine wpAny_bind (wpAny_pure ?_)
    simp only [Bool.false_eq_true, if_false]
    refine wpAny_bind (wpAny_mono one (fun r s' z => ?_) fun _ _ e => e)
    obtain ⟨v, rfl, hq⟩ := z
    exact wpAny_pure hq
end
/-- what a class with its own == must have -/
structure EqC (K : PySem.W.Frag) (C f : Addr) : Prop where
  eq : PySem.W.findIn K (.ref C) "__eq__" = some (some (.ref f))
  fn : PySem.W.isFn K (.ref f) = true
  ne : PySem.W.findIn K (.ref C) "__ne__" = some (some (.builtin "object.__ne__"))
  ob : PySem.W.subIn K (.ref C) (.type "object") = some true
  nf : ∀ t : Ty, PySem.W.notFirst K C (.type t.nm) = true
/-- y's type, as far as == asks -/
def TyE (K : PySem.W.Frag) (H : Hp) (C : Addr) (y : V) : Prop := (∃ t : Ty, TyX K H y (.type t.nm)) ∨ ∃ a dx fs, y = .ref a ∧ H a = some (.ins C dx fs)
def rEqO (K : PySem.W.Frag) (C : Addr) (sp : Sp) (E : XK) (g : Bool → Bool) : R2 := fun x y H Q => ∃ a dx fs, x = .ref a ∧ H a = some (.ins C dx fs) ∧ TyE K H C y ∧ sp [x, y] H (fun v H' => ∃ k, v = .bl k ∧ Q (.bl (g k)) H') E
section
variable {X : Cx} {k : Nat} {C f : Addr} {fd : FuncData} {ps : List Str} {sp : Sp} {E : XK}
theorem ty_looks {pins : List (Addr × Obj)} {σ : St} {H : Hp} {s : Shared} (I : Inv X pins σ H s) {y : V} {v : Value} (ry : RelV y v) (EC : EqC X.K C f) (ht : TyE X.K H C y) : ∃ tb, PySem.W.Looks (model X.prog X.w) s.heap (typeOf v) tb ∧ PySem.W.notFirst X.K C tb = true := by
  rcases ht with ⟨t, ht⟩ | ⟨a, dx, fs, rfl, ha⟩
  · obtain ⟨P, Z, p, _⟩ := kit_of I ry ht
    exact ⟨_, Z.ty _ s.heap I.kIn p, EC.nf t⟩
  · cases ry
    obtain ⟨mB, J', _⟩ := ins_get I.hok ha
    obtain ⟨od', J', _⟩ := J'.look
    exact ⟨.ref C, J'.type, by simp [PySem.W.notFirst]⟩
theorem own_run {pins : List (Addr × Obj)} {σ : St} {H : Hp} {s : Shared} {A : Around} (F : FnOk X.prog X.w X.K X.mg X.base (L2.CX X.prog X.w) k f fd ps sp) (sb : Sub X k A) (hb : Binds X.K fd ps []) (hx : Passes (L2.CX X.prog X.w) X E) (I : Inv X pins σ H s) {x y : V} {u v : Value} (rx : RelV x u) (ry : RelV y v) {Q : VK} (hsp : sp [x, y] H Q E) :
    wpAny (model X.prog X.w) A (call (.ref f) [u, v]) (EP X pins σ Q) X.xe s := by
  have e0 : Env0 X.prog X.w X.K X.mg X.base A X.stack s H := by
    have e := I.env0
    exact ⟨by rw [sb.fr]; exact e.frames, e.mod, e.bs, e.bsz, e.funs, e.frf, e.hok, e.bare⟩
  have hl := F.len _ _ _ _ hsp
  have r2 : Vals [x, y] [u, v] := .cons rx (.cons ry .nil)
  refine wpAny_call (codeAny_mono (F.run A X.stack s H ⟨[u, v], []⟩ [u, v] [x, y] _ E sb.room e0 (by
    have := hb s [u, v] I.kIn (by simpa using hl)
    simpa using this) r2 hsp) fun r s' hq => ?_)
  cases r with
  | error e => exact hx pins σ H s e s' I hq
  | ok fl =>
    cases fl with
    | ret w => exact I.after hq
    | next => exact False.elim hq
    | brk => exact False.elim hq
    | cont => exact False.elim hq
theorem op_eqO (F : FnOk X.prog X.w X.K X.mg X.base (L2.CX X.prog X.w) k f fd ps sp) (hr : Room k X.A) (EC : EqC X.K C f) (hb : Binds X.K fd ps []) (hx : Passes (L2.CX X.prog X.w) X E) : OpR X (compareOp .Eq) (rEqO X.K C sp E id) := by
  intro pins s σ H x y u v Q I rx ry h
  obtain ⟨a, dx, fs, rfl, ha, ht, hsp⟩ := h
  cases (show u = Value.ref a from rx)
  obtain ⟨mA, J, _⟩ := ins_get I.hok ha
  obtain ⟨od, J, _⟩ := J.look
  obtain ⟨tb, l1, l2⟩ := ty_looks I ry EC ht
  obtain ⟨m, hF⟩ := I.fr
  refine PySem.W.cmp_K (op := .Eq) (tb := tb) hr.units0 hF I.ok.mod.kin J l1 l2 EC.eq EC.fn (wpAny_mono (own_run F ⟨hr, rfl⟩ hb hx I (x := .ref a) (u := .ref a) rfl ry hsp) (fun r s' z => ?_) fun _ _ x => x)
  obtain ⟨z, H', I', rz, b, hz, q⟩ := z
  subst hz
  cases rz
  exact ⟨.bl b, H', I', rfl, q⟩
theorem op_neO (F : FnOk X.prog X.w X.K X.mg X.base (L2.CX X.prog X.w) k f fd ps sp) (hr : Room (k + 1) X.A) (EC : EqC X.K C f) (hb : Binds X.K fd ps []) (hx : Passes (L2.CX X.prog X.w) X E) : OpR X (compareOp .NotEq) (rEqO X.K C sp E not) := by
  intro pins s σ H x y u v Q I rx ry h
  obtain ⟨a, dx, fs, rfl, ha, ht, hsp⟩ := h
  cases (show u = Value.ref a from rx)
  obtain ⟨mA, J, _⟩ := ins_get I.hok ha
  obtain ⟨od, J, _⟩ := J.look
  obtain ⟨tb, l1, l2⟩ := ty_looks I ry EC ht
  obtain ⟨m, hF⟩ := I.fr
  refine ne_K (tb := tb) hr.in1.units0 I.kIn J l1 l2 EC.ne EC.eq EC.fn EC.ob (wpAny_mono (own_run F (Sub.in1 ⟨hr, rfl⟩) hb hx I (x := .ref a) (u := .ref a) rfl ry hsp) (fun r s' z => ?_) fun _ _ x => x)
  obtain ⟨z, H', I', rz, b, hz, q⟩ := z
  subst hz
  cases rz
  exact ⟨_, rfl, .bl (!b), H', I', rfl, q⟩
end
end Dm

set_option Elab.async false
set_option linter.all false
set_option maxRecDepth 100000
set_option autoImplicit false
set_option maxHeartbeats 4000000
/-! DmTm: tuple * int, every count. -/
namespace Dm
open PySem PySem.Spec L2 PyProof.Rows
theorem tuple_mul1 (l : Addr) (items : Array Value) (n : Nat) (dd : Option Addr) (sl : Array (Option Value)) (u : Tok) :
    Meets (Builtin.«tuple.__mul__» ⟨[.ref l, .int 1 u], []⟩) (fun _ R s => s.heap.get? l = some { cls := .type "tuple", dict := dd, data := .seq items n, slots := sl } ∧ R (.ok (.ret (Value.ref l))) s) :=
  .of_wp fun prog w A R s h => by
    obtain ⟨hp, g, d, tk, os⟩ := s
    obtain ⟨hl, h⟩ := h
    have f1 := AutoSeq1.idx_int
    have c0 : (decide ((1 : Int) < -(2 ^ 63)) || decide ((1 : Int) ≥ 2 ^ 63)) = false := by decide
    have c1 : (items.isEmpty || (1 : Int) == 1) = true := by simp
    wp_walk using wpAny_loadPart' hl
    repeat (first
      | (refine wpAny_ite_false (decide_eq_false (by rw [c0]; exact Bool.false_ne_true)) ?_; wp_walk using wpAny_loadPart' hl)
      | (refine wpAny_ite_true (decide_eq_true (by rw [c1])) ?_; wp_walk using wpAny_loadPart' hl))
    exact ⟨_, rfl, h⟩
theorem tuple_mul0 (l : Addr) (items : Array Value) (n : Nat) (dd : Option Addr) (sl : Array (Option Value)) (x : Int) (u : Tok) (c0 : (decide (x < -(2 ^ 63)) || decide (x ≥ 2 ^ 63)) = false) (c1 : (items.isEmpty || x == 1) = false) (c2 : (decide (x ≤ 0) || items.isEmpty) = true) :
    Meets (Builtin.«tuple.__mul__» ⟨[.ref l, .int x u], []⟩) (fun _ R s => s.heap.get? l = some { cls := .type "tuple", dict := dd, data := .seq items n, slots := sl } ∧
      R (.ok (.ret (Value.ref s.heap.objs.size))) { s with heap := s.heap.push { cls := Value.type "tuple", data := Data.seq #[] }, toks := s.toks }) :=
  .of_wp fun prog w A R s h => by
    obtain ⟨hp, g, d, tk, os⟩ := s
    obtain ⟨hl, h⟩ := h
    have f1 := AutoSeq1.idx_int
    wp_walk using wpAny_loadPart' hl
    repeat (first
      | (refine wpAny_ite_false (decide_eq_false (by rw [c0]; exact Bool.false_ne_true)) ?_; wp_walk using wpAny_loadPart' hl)
      | (refine wpAny_ite_false (decide_eq_false (by rw [c1]; exact Bool.false_ne_true)) ?_; wp_walk using wpAny_loadPart' hl)
      | (refine wpAny_ite_true (decide_eq_true (by rw [c2])) ?_; wp_walk using wpAny_loadPart' hl))
    exact ⟨_, rfl, h⟩
def rRep1 (K : PySem.W.Frag) : R2 := fun x y H Q => ∃ l xs, x = .ref l ∧ y = .int 1 ∧ SqT K H l xs ∧ Q (.ref l) H
def rRep0 (K : PySem.W.Frag) : R2 := fun x y H Q => ∃ l k xs, x = .ref l ∧ y = .int k ∧ SqT K H l xs ∧ xs ≠ [] ∧ k ≤ 0 ∧ -(2 ^ 63) ≤ k ∧ ∀ p, H p = none → Q (.ref p) (upd H p (.tup []))
section
variable {X : Cx} {cl : Cl}
theorem op_rep1 : OpR X (binaryOp .Mult) (rRep1 X.K) := by
  intro pins s σ H x y v u Q I rx ry h
  obtain ⟨l, xs, rfl, rfl, hT, q⟩ := h
  cases rx
  obtain ⟨t, rfl⟩ := ry
  obtain ⟨its, r, ⟨⟨cls, dd, data, sl⟩, ho, hc, n, hd⟩, hs⟩ := I.tuple hT
  simp only at hc hd
  subst hc hd
  refine wpAny_binaryOp_repeat_ref (T := "tuple") (U := "int") (by decide) ⟨_, ho, rfl⟩ (fun s' => typeIs_int s' 1 t) noFill_tuple_mul F.fills_int_mul F.slot_int_rmul repeat_tuple F.slot_int_index.lookup
    (call_meets F.slot_int_rmul (typeIs_int s 1 t) F.entry_int_rmul (F.args_int_rmul_2 _ _) (int_rmul_tuple 1 t l its.toArray n dd sl)
      ⟨ho, rfl, ⟨_, ho, rfl⟩, call_meets F.slot_tuple_mul ⟨_, ho, rfl⟩ F.entry_tuple_mul (F.args_tuple_mul_2 _ _) (tuple_mul1 l its.toArray n dd sl t) ⟨ho, ?_⟩⟩)
  exact ⟨.ref l, H, I, rfl, q⟩
theorem op_rep0 : OpR X (binaryOp .Mult) (rRep0 X.K) := by
  intro pins s σ H x y v u Q I rx ry h
  obtain ⟨l, k, xs, rfl, rfl, hT, hne, h1, h2, q⟩ := h
  cases rx
  obtain ⟨t, rfl⟩ := ry
  obtain ⟨its, r, ⟨⟨cls, dd, data, sl⟩, ho, hc, n, hd⟩, hs⟩ := I.tuple hT
  simp only at hc hd
  subst hc hd
  have hi : its.toArray.isEmpty = false := by
    cases its with
    | nil => exact absurd (List.eq_nil_of_length_eq_zero r.length) hne
    | cons a b => rfl
  have c0 : (decide (k < -(2 ^ 63)) || decide (k ≥ 2 ^ 63)) = false := by
    rw [decide_eq_false (by omega), decide_eq_false (by omega)] <;> rfl
  have c1 : (its.toArray.isEmpty || k == 1) = false := by
    rw [hi, Bool.false_or]
    exact beq_eq_false_iff_ne.mpr (by omega)
  have c2 : (decide (k ≤ 0) || its.toArray.isEmpty) = true := by rw [decide_eq_true h1] <;> rfl
  refine wpAny_binaryOp_repeat_ref (T := "tuple") (U := "int") (by decide) ⟨_, ho, rfl⟩ (fun s' => typeIs_int s' k t) noFill_tuple_mul F.fills_int_mul F.slot_int_rmul repeat_tuple F.slot_int_index.lookup
    (call_meets F.slot_int_rmul (typeIs_int s k t) F.entry_int_rmul (F.args_int_rmul_2 _ _) (int_rmul_tuple k t l its.toArray n dd sl)
      ⟨ho, rfl, ⟨_, ho, rfl⟩, call_meets F.slot_tuple_mul ⟨_, ho, rfl⟩ F.entry_tuple_mul (F.args_tuple_mul_2 _ _) (tuple_mul0 l its.toArray n dd sl k t c0 c1 c2) ⟨ho, ?_⟩⟩)
  refine ⟨.ref s.heap.objs.size, _, I.laid (t' := s.toks) (o := .tup []) (fun b ob q => Heap.get?_push_of_some _ q) (Nat.le_refl _) ?_, rfl, q _ (I.hok.fresh (Nat.le_refl _))⟩
  exact ⟨Nat.zero_le _, _, .nil, IsTup.new _ _⟩
/-- tuple * int -/
def mulTF : F2 := fun _ x y => match x, y with
  | .tup xs, .int k => if xs ≠ [] ∧ xs.length ≤ 1000 ∧ -(2 ^ 63) ≤ k ∧ k ≤ 1000 then some (.tup (List.replicate k.toNat xs).flatten) else none
  | _, _ => none
def rMulT (K : PySem.W.Frag) : R2 := fun v u H Q => rRep1 K v u H Q ∨ rRep0 K v u H Q ∨ rRepT K v u H Q
theorem o_mulT : OpR X (binaryOp .Mult) (rMulT X.K) := op_rep1.or (op_rep0.or op_repT)
theorem s_mulT : Op2 X cl (rMulT X.K) mulTF := fun W ω μ S H x y z v u Q s rx ry h k => by
  unfold mulTF at h
  split at h
  · rename_i xs j
    split at h
    · rename_i hb
      cases h
      obtain ⟨a, vs, rfl, h1, h2, h3⟩ := repL_tup rx
      have hne : vs ≠ [] := fun e => hb.1 (by rw [e] at h3; exact List.eq_nil_of_length_eq_zero h3.length)
      rw [repL_int ry]
      by_cases c1 : j = 1
      · subst c1
        refine .inl ⟨a, vs, rfl, rfl, .of h1, k H _ s Ext.refl ?_⟩
        have : (List.replicate (1 : Int).toNat xs).flatten = xs := by simp
        rw [this]
        exact .tup h1 h2 h3
      · by_cases c2 : j ≤ 0
        · refine .inr (.inl ⟨a, j, vs, rfl, rfl, .of h1, hne, c2, hb.2.2.1, fun p hp => k _ _ (s.fresh hp) (Ext.fresh hp) ?_⟩)
          have : j.toNat = 0 := by omega
          rw [this]
          exact rep_newT s hp .nil
        · exact .inr (.inr ⟨a, j, vs, rfl, rfl, .of h1, hne, by omega, hb.2.2.2, by rw [← h3.length]; exact hb.2.1, fun p hp => k _ _ (s.fresh hp) (Ext.fresh hp) (rep_newT s hp (reps_rep h3 _))⟩)
    · cases h
  · cases h
end
end Dm

set_option Elab.async false
set_option linter.all false
set_option maxRecDepth 100000
set_option autoImplicit false
set_option maxHeartbeats 1000000
/-! DmF: own == by mirrors, methods, isinstance with own classes, calls with own objects. -/
namespace Dm
open PySem PySem.Spec L2
section
variable {X : Cx} {cl : Cl} {E : XK} {e a b : Expr} {m ma mb : EM} {pos : Pos} {c : Nat} {f : List Vl → Sto → Res Vl} {g : Bool → Bool}
def insOf (S : Sto) (c : Nat) (x : Vl) : Bool := match look S x with
  | .ins d _ _ => d == c
  | _ => false
theorem ins_of {K : PySem.W.Frag} {W : Addr → Prop} {ω : List (Option Addr)} {μ : List Addr} {S : Sto} {H : Hp} {x : Vl} {v : V} (s : Sim K cl (Wo W ω) μ S H) (r : RepL K cl W ω μ H x v) (h : insOf S c x = true) : ∃ a dx fs, v = .ref a ∧ H a = some (.ins (cl c) dx fs) := by
  have r2 := repR_of s r
  unfold insOf at h
  revert r2 h
  generalize look S x = y
  intro h r2
  cases y with
  | ins d ns xs =>
    obtain ⟨a, dx, fs, h1, h2, _⟩ := repR_ins r2
    have : d = c := by simpa using h
    subst this
    exact ⟨a, dx, fs, h1, h2⟩
  | _ => simp at h
def eqOk (S : Sto) (c : Nat) (x y : Vl) : Bool := insOf S c x && ((tyOf S y).isSome || insOf S c y)
/-- x == y, by the class's own == (g: id, or not for !=) -/
def binC (c : Nat) (f : List Vl → Sto → Res Vl) (g : Bool → Bool) (a b : EM) : EM := fun env S => (a env S).bind fun x S1 => (b env S1).bind fun y S2 => if eqOk S2 c x y = true then (f [x, y] S2).bind fun r S3 => (match r with
    | .bl k => .ok (.bl (g k)) S3
    | _ => .bad) else .bad
theorem binC_t {σ : St} {H : Hp} {Q : VK} (h : tD X.K cl E (binC c f g ma mb) σ H Q) : tOp (rEqO X.K (cl c) (spM X.K cl 2 f) E g) (tD X.K cl E ma) (tD X.K cl E mb) σ H Q := by
  obtain ⟨W, ω, μ, S, env, rl, q⟩ := h
  refine ⟨W, ω, μ, S, env, rl, q.bind.mono fun x S1 μ1 H1 _ s1 e1 q1 v rv => ?_⟩
  refine ⟨W, ω, μ1, S1, env, rl.ext e1 s1, q1.bind.mono fun y S2 μ2 H2 _ s2 e2 q2 u ru => ?_⟩
  by_cases hk : eqOk S2 c x y = true
  · rw [if_pos hk] at q2
    have rv2 := rv.mono e2.kp
    obtain ⟨k1, k2⟩ := (Bool.and_eq_true _ _ ▸ hk : insOf S2 c x = true ∧ _)
    obtain ⟨a, dx, fs, rfl, ha⟩ := ins_of s2 (.inl rv2) k1
    refine ⟨a, dx, fs, rfl, ha, ?_, ⟨Wo W ω, μ2, S2, [x, y], s2, .cons rv2 (.cons ru .nil), rfl, q2.bind.mono fun r S3 μ3 H3 _ s3 e3 q3 z rz => ?_⟩⟩
    · rcases Bool.or_eq_true_iff.mp k2 with k2 | k2
      · obtain ⟨t, ht⟩ := Option.isSome_iff_exists.mp k2
        exact .inl ⟨t, ty_rep s2 (.inl ru) ht⟩
      · obtain ⟨b, dy, gs, rfl, hb⟩ := ins_of s2 (.inl ru) k2
        exact .inr ⟨b, dy, gs, rfl, hb⟩
    · cases r with
      | bl k =>
        cases rz
        exact ⟨k, rfl, q3 μ3 H3 s3 Ext.refl _ (.bl _)⟩
      | _ => exact q3.elim
  · rw [if_neg hk] at q2
    exact q2.elim
theorem de_cmpC {op : CmpOp} (ho : OpR X (compareOp op) (rEqO X.K (cl c) (spM X.K cl 2 f) E g)) (ha : PE X a (tD X.K cl E ma)) (hb : PE X b (tD X.K cl E mb)) (hm : behindInMarks op b = false) : PE X (.Compare a [op] [b] pos) (tD X.K cl E (binC c f g ma mb)) :=
  (pe_cmpR ho ha hb hm).imp fun _ _ _ h => binC_t h
theorem dt_cmpC {op : CmpOp} (ho : OpR X (compareOp op) (rEqO X.K (cl c) (spM X.K cl 2 f) E g)) (ha : PE X a (tD X.K cl E ma)) (hb : PE X b (tD X.K cl E mb)) (hm : behindInMarks op b = false) : PT X (.Compare a [op] [b] pos) (tDT X.K cl E (tv (binC c f g ma mb))) :=
  (pt_cmpR ho ha hb hm).imp fun _ _ _ h => binC_t (tv_t h)
/-! ### o.m(..) -/
def methM (c : Nat) (nm : Str) (f : List Vl → Sto → Res Vl) (o : EM) (a : AM) : EM := fun env S => (o env S).bind fun x S1 => match look S1 x with
  | .ins d ns xs => if d = c ∧ fGet ns xs nm = none then (a env S1).bind fun ys S2 => f (x :: ys) S2 else .bad
  | _ => .bad
theorem meth_t {nm : Str} {mA : AM} {n : Nat} (hn : LenA mA n) {σ : St} {H : Hp} {Q : VK} (h : tD X.K cl E (methM c nm f m mA) σ H Q) : tMeth (cl c) nm (spM X.K cl (n + 1) f) [] E (tD X.K cl E m) (tDA X.K cl E mA) σ H Q := by
  obtain ⟨W, ω, μ, S, env, rl, q⟩ := h
  refine ⟨W, ω, μ, S, env, rl, q.bind.mono fun x S1 μ1 H1 _ s1 e1 q1 v rv => ?_⟩
  have r2 := repR_of s1 (.inl rv : RepL X.K cl W ω μ1 H1 x v)
  revert r2 q1
  generalize hl : look S1 x = y
  intro q1 r2
  cases y with
  | ins d ns xs =>
    dsimp only at q1
    by_cases hd : d = c ∧ fGet ns xs nm = none
    · rw [if_pos hd] at q1
      obtain ⟨rfl, hf⟩ := hd
      obtain ⟨a, dx, fs, rfl, h2, h3, h4⟩ := repR_ins r2
      subst h3
      refine ⟨a, dx, fs, rfl, h2, (fGet_ok h4).2 hf, ⟨W, ω, μ1, S1, env, rl.ext e1 s1, q1.bind.mono fun ys S2 μ2 H2 ee s2 e2 q2 vs rs => ?_⟩⟩
      show spM X.K cl (n + 1) f (.ref a :: (vs ++ [])) H2 Q E
      rw [List.append_nil]
      exact sat_call s2 (.cons (rv.mono e2.kp) rs) (by rw [List.length_cons, hn _ _ _ _ ee]) q2
    · rw [if_neg hd] at q1
      exact q1.elim
  | _ => exact q1.elim
theorem meth_t0 {nm : Str} {σ : St} {H : Hp} {Q : VK} (h : tD X.K cl E (methM c nm f m nilA) σ H Q) : tMeth (cl c) nm (spM X.K cl 1 f) [] E (tD X.K cl E m) tNil σ H Q := by
  obtain ⟨W, ω, μ, S, env, rl, q⟩ := meth_t lenA_nil h
  refine ⟨W, ω, μ, S, env, rl, q.mono fun x S1 μ1 H1 _ s1 e1 q1 v rv => ?_⟩
  obtain ⟨a, dx, fs, h1, h2, h3, W', ω', μ', S', env', rl', q'⟩ := q1 v rv
  exact ⟨a, dx, fs, h1, h2, h3, q' μ' H1 rl'.sim Ext.refl [] .nil⟩
/-! ### isinstance(e, C), C an own class -/
/-- what isinstance asks of a class of instances -/
structure IsC (K : PySem.W.Frag) (C : Addr) : Prop where
  cls : Cls K C
  ha : PySem.W.findIn K (.ref C) "__class__" = some (some (.builtin "object.__class__"))
  hn : PySem.W.specialIn K (.builtin "object.__class__") "__get__" = some (some (.builtin "getset_descriptor.__get__"))
  htk : PySem.W.takesIn K (.builtin "object.__class__") = some true
  hm : PySem.W.mroIn K C (.type "object") = some true
/-- ds: the classes that are c -/
def isoM (ds : List Nat) (cs : List Nat) (m : EM) : EM := fun env S => (m env S).bind fun x S1 => match look S1 x with
  | .ins d _ _ => if d ∈ cs then .ok (.bl (decide (d ∈ ds))) S1 else .bad
  | _ => match tyOf S1 x with
    | some _ => .ok (.bl false) S1
    | none => .bad
theorem de_iso {ds cs : List Nat} {ce : Expr} {p : Pos} (he : PE X e (tL X.K cl E m)) (hc : PE X ce (tC (.ref (cl c)))) (hg : Gl X "isinstance") (hm : X.mg "isinstance" = none) (hv : bootBuiltins "isinstance" = some (.builtin "isinstance"))
    (h1 : ∀ d ∈ cs, IsC X.K (cl d)) (h2 : ∀ d ∈ cs, PySem.W.kitOne X.K (.ref (cl d)) (.ref (cl c)) = some (decide (d ∈ ds))) (h3 : ∀ t : Ty, PySem.W.kitOne X.K (.type t.nm) (.ref (cl c)) = some false)
    (hs : starEach [e, ce] X.env = (false, eval e X.env) :: starEach [ce] X.env := by rfl) (hs2 : starEach [ce] X.env = [(false, eval ce X.env)] := by rfl) (hpl : (backTo pos (starEach [ce] X.env)).any (·.1) = false := by rfl) : PE X (.Call (.Name "isinstance" p) [e, ce] [] pos) (tD X.K cl E (isoM ds cs m)) :=
  (pe_callB call_isi hg hm hv (pa_cons he (pa_cons hc pa_nil hs2) hs) (by decide) (by decide) hs hpl).imp fun σ H Q ⟨W, ω, μ, S, env, rl, q⟩ => ⟨W, ω, μ, S, env, rl, q.bind.mono fun x S1 μ1 H1 _ s1 e1 q1 v rv => by
    have r2 := repR_of s1 rv
    have r3 := fun t (ht : tyOf S1 x = some t) => ty_rep s1 rv ht
    have old : (match tyOf S1 x with | some _ => Res.ok (Vl.bl false) S1 | none => .bad) = (match tyOf S1 x with | some _ => Res.ok (Vl.bl false) S1 | none => .bad) → ∀ q : SatG X.K cl (Wo W ω) μ1 H1 (match tyOf S1 x with | some _ => Res.ok (Vl.bl false) S1 | none => .bad) (fun x _ μ' H' => ∀ v, Rep X.K cl (Bn (Wo W ω) μ') μ' H' x v → Q v H') E, rIsi X.K [v, .ref (cl c)] H1 Q := fun _ q => by
      cases ht : tyOf S1 x with
      | none => rw [ht] at q; exact q.elim
      | some t =>
        rw [ht] at q
        exact ⟨v, .ref (cl c), .type t.nm, .ref (cl c), false, rfl, .own _, r3 t ht, h3 t, q μ1 H1 s1 Ext.refl _ (.bl _)⟩
    show rIsi X.K [v, .ref (cl c)] H1 Q
    revert r2 q1
    generalize look S1 x = y
    intro q1 r2
    cases y with
    | ins d ns xs =>
      dsimp only at q1
      by_cases hd : d ∈ cs
      · rw [if_pos hd] at q1
        obtain ⟨a, dx, fs, rfl, g2, _⟩ := repR_ins r2
        have I := h1 d hd
        exact ⟨.ref a, .ref (cl c), .ref (cl d), .ref (cl c), _, rfl, .own _, .base (.ins g2 I.cls I.ha I.hn I.htk I.hm), h2 d hd, q1 μ1 H1 s1 Ext.refl _ (.bl _)⟩
      · rw [if_neg hd] at q1
        exact q1.elim
    | _ => exact old rfl q1⟩
end
end Dm

set_option Elab.async false
set_option linter.all false
set_option maxRecDepth 100000
set_option autoImplicit false
set_option maxHeartbeats 1000000
/-! DmG: own objects handed to calls; construction by keywords; a, b = x, y with own objects. -/
namespace Dm
open PySem PySem.Spec L2
mutual
/-- no list, no dict inside -/
def nlB : Vl → Bool
  | .non => true
  | .bl _ => true
  | .int _ => true
  | .str _ => true
  | .ref _ => true
  | .tup xs => nlBs xs
  | .ins _ _ xs => nlBs xs
  | .lst _ => false
  | .dk _ _ => false
  | .dt _ _ => false
  | .scr _ => false
  | .ftp xs => nlBs xs
  | .tab _ _ => true
  | .exn _ _ xs => nlBs xs
  | .fdk _ _ => false
  | .fdt _ _ => false
def nlBs : List Vl → Bool
  | [] => true
  | x :: xs => nlB x && nlBs xs
end
def nlO : Vl → Bool
  | .lst xs => nlBs xs
  | .dk _ xs => nlBs xs
  | .dt _ xs => nlBs xs
  | .ins _ _ xs => nlBs xs
  | _ => true
def stOk (S : Sto) : Bool := S.all nlO
def svOk : Sv → Bool
  | .ow (.ins _ _ _) => false
  | .ow (.tab _ _) => false
  | .sf _ _ => false
  | _ => true
def envOk (env : List Sv) : Bool := env.all svOk
def SqO (o : HO) : Prop := (∃ vs, o = .lst vs) ∨ (∃ k, o = .dK k) ∨ ∃ k, o = .dT k
theorem ext_nsq {o : HO} {φ : Heap → Prop} (e : o = .ext φ) (h : SqO o) : False := by
  subst e
  rcases h with ⟨_, h⟩ | ⟨_, h⟩ | ⟨_, h⟩ <;> cases h
theorem exo_nsq {o : HO} {a C : Addr} {d : Option Addr} (e : o = exo a C d) (h : SqO o) : False := ext_nsq e h
theorem exd_nsq {o : HO} {a : Addr} {fs : List (Str × V)} (e : o = exd a fs) (h : SqO o) : False := ext_nsq e h
section
variable {K : PySem.W.Frag} {cl : Cl} {B B' W W' : Addr → Prop} {μ : List Addr} {H : Hp} {S : Sto}
theorem TabC.ban (hB : ∀ a, B' a → B a ∨ ∃ o, H a = some o ∧ SqO o) {q : Str} {ps : Array Value} (h : TabC B H q ps) : TabC B' H q ps := ⟨h.1, fun pos cv hc => by
  obtain ⟨c, e1, e2, e3⟩ := h.2 pos cv hc
  refine ⟨c, e1, e2, fun z => (hB c z).elim e3 fun ⟨o, g1, g2⟩ => ?_⟩
  rw [e2] at g1
  cases g1
  rcases g2 with ⟨_, g⟩ | ⟨_, g⟩ | ⟨_, g⟩ <;> exact absurd g (by unfold LamX.CodeO; simp)⟩
mutual
theorem Rep.ban (hB : ∀ a, B' a → B a ∨ ∃ o, H a = some o ∧ SqO o) : ∀ {x : Vl} {v : V}, nlB x = true → Rep K cl B μ H x v → Rep K cl B' μ H x v
  | _, _, _, .non => .non
  | _, _, _, .bl b => .bl b
  | _, _, _, .int i => .int i
  | _, _, _, .str x => .str x
  | _, _, h, .tup e n r => .tup e (fun z => (hB _ z).elim n fun ⟨o, e2, q⟩ => by rw [e] at e2; cases e2; rcases q with ⟨_, q⟩ | ⟨_, q⟩ | ⟨_, q⟩ <;> cases q) (Reps.ban hB (by simpa [nlB] using h) r)
  | _, _, h, .lst e n r => by simp [nlB] at h
  | _, _, h, .scr e => by simp [nlB] at h
  | _, _, h, .ftp e d n r => .ftp e d (fun z => (hB _ z).elim n fun ⟨o, e2, q⟩ => by rw [e] at e2; cases e2; rcases q with ⟨_, q⟩ | ⟨_, q⟩ | ⟨_, q⟩ <;> cases q) (Reps.ban hB (by simpa [nlB] using h) r)
  | _, _, h, .dk e n q r => by simp [nlB] at h
  | _, _, h, .dt e n q r => by simp [nlB] at h
  | _, _, h, .ins e n q r => .ins e (fun z => (hB _ z).elim n fun ⟨o, e2, q⟩ => by rw [e] at e2; cases e2; rcases q with ⟨_, q⟩ | ⟨_, q⟩ | ⟨_, q⟩ <;> cases q) q (Reps.ban hB (by simpa [nlB] using h) r)
  | _, _, _, .ref e => .ref e
  | _, _, _, .tab g e n t => .tab g e (fun z => (hB _ z).elim n fun ⟨o, e2, q⟩ => by rw [e] at e2; cases e2; rcases q with ⟨_, q⟩ | ⟨_, q⟩ | ⟨_, q⟩ <;> cases q) (t.ban hB)
  | _, _, h, .exn e n e2 n2 q r => .exn e (fun z => (hB _ z).elim n fun ⟨o, f2, q⟩ => exo_nsq (by rw [e] at f2; exact (Option.some.inj f2).symm) q) e2 (fun z => (hB _ z).elim n2 fun ⟨o, f2, q⟩ => exd_nsq (by rw [e2] at f2; exact (Option.some.inj f2).symm) q) q (Reps.ban hB (by simpa [nlB] using h) r)
  | _, _, h, .fdk e n q r => by simp [nlB] at h
  | _, _, h, .fdt e n q r => by simp [nlB] at h
  | _, _, h, .exz e n => .exz e (fun z => (hB _ z).elim n fun ⟨o, f2, q⟩ => exo_nsq (by rw [e] at f2; exact (Option.some.inj f2).symm) q)
theorem Reps.ban (hB : ∀ a, B' a → B a ∨ ∃ o, H a = some o ∧ SqO o) : ∀ {xs : List Vl} {vs : List V}, nlBs xs = true → Reps K cl B μ H xs vs → Reps K cl B' μ H xs vs
  | _, _, _, .nil => .nil
  | _, _, h, .cons r t => by
    simp only [nlBs, Bool.and_eq_true] at h
    exact .cons (Rep.ban hB h.1 r) (Reps.ban hB h.2 t)
end
theorem At.ban (hB : ∀ a, B' a → B a ∨ ∃ o, H a = some o ∧ SqO o) {a : Addr} {x : Vl} (h : nlO x = true) (r : At K cl B μ H a x) : At K cl B' μ H a x := by
  cases r with
  | lst e r => exact .lst e (r.ban hB h)
  | dk e q r => exact .dk e q (r.ban hB h)
  | dt e q r => exact .dt e q (r.ban hB h)
  | ins e q r => exact .ins e q (r.ban hB h)
  | tab g e t => exact .tab g e (t.ban hB)
theorem bn_ban (h : ∀ a, W' a → W a ∨ ∃ o, H a = some o ∧ SqO o ∧ a ∉ μ) (a : Addr) (z : Bn W' μ a) : Bn W μ a ∨ ∃ o, H a = some o ∧ SqO o :=
  z.elim (fun z => .inl (.inl z)) fun z => (h a z).elim (fun z => .inl (.inr z)) fun ⟨o, e, q, _⟩ => .inr ⟨o, e, q⟩
theorem Sim.ban (s : Sim K cl W μ S H) (h : ∀ a, W' a → W a ∨ ∃ o, H a = some o ∧ SqO o ∧ a ∉ μ) (hs : stOk S = true) : Sim K cl W' μ S H where
  len := s.len
  nd := s.nd
  dis := fun a ha z => (h a z).elim (s.dis a ha) fun ⟨_, _, _, n⟩ => n ha
  trn := fun a z => (h a z).elim (s.trn a) fun ⟨o, e, q, _⟩ => ⟨o, e, by
    rcases q with ⟨vs, q⟩ | ⟨k, q⟩ | ⟨k, q⟩ <;> rw [q] <;> intro _ z <;> cases z⟩
  obs := fun n x e => by
    obtain ⟨a, e1, e2⟩ := s.obs n x e
    exact ⟨a, e1, e2.ban (bn_ban h) (List.all_eq_true.mp hs x (List.mem_of_getElem? e))⟩
end
section
variable {X : Cx} {cl : Cl} {E : XK} {mA : AM} {f : List Vl → Sto → Res Vl} {fi : Addr → List Vl → Sto → Res Vl} {n c : Nat}
/-- own objects are lists and dicts -/
theorem own_sq {K : PySem.W.Frag} {W : Addr → Prop} {ω : List (Option Addr)} {μ : List Addr} {S : Sto} {env : List Sv} {σ : St} {H : Hp} (rl : Rl K cl W ω μ S env σ H) (h : envOk env = true) {a : Addr} (ha : some a ∈ ω) : ∃ o, H a = some o ∧ SqO o := by
  obtain ⟨i, hi⟩ := List.getElem?_of_mem ha
  have h1 := (List.getElem?_eq_some_iff.mp hi).1
  have h2 : i < env.length := by rw [rl.l1, ← rl.l2]; exact h1
  have h3 : i < σ.length := by rw [← rl.l2]; exact h1
  have sl := rl.at_ i _ _ _ (List.getElem?_eq_getElem h2) hi (List.getElem?_eq_getElem h3)
  have hk := List.all_eq_true.mp h _ (List.getElem_mem h2)
  revert sl hk
  generalize env[i] = e
  intro sl hk
  cases e with
  | un => cases sl
  | v x => cases sl.1
  | sf b x => simp [svOk] at hk
  | ow x =>
    obtain ⟨b, e1, e2, at_⟩ := sl
    cases e1
    cases at_ with
    | lst e r => exact ⟨_, e, .inl ⟨_, rfl⟩⟩
    | dk e q r => exact ⟨_, e, .inr (.inl ⟨_, rfl⟩)⟩
    | dt e q r => exact ⟨_, e, .inr (.inr ⟨_, rfl⟩)⟩
    | ins e q r => simp [svOk] at hk
    | tab g e t => simp [svOk] at hk
theorem own_keep {K : PySem.W.Frag} {W : Addr → Prop} {ω : List (Option Addr)} {μ μ1 μ2 : List Addr} {S S1 : Sto} {env : List Sv} {σ : St} {H H1 H2 : Hp} (rl : Rl K cl W ω μ S env σ H) (h : envOk env = true) (e1 : Ext μ H μ1 H1) (s1 : Sim K cl (Wo W ω) μ1 S1 H1) (e2 : Ext μ1 H1 μ2 H2) {a : Addr} (ha : some a ∈ ω) : ∃ o, H2 a = some o ∧ SqO o ∧ a ∉ μ2 := by
  obtain ⟨o, h1, h2⟩ := own_sq rl h ha
  have n0 : a ∉ μ := fun z => rl.sim.dis a z (.inr ha)
  have g1 := e1.keep a o h1 n0
  have n1 : a ∉ μ1 := fun z => s1.dis a z (.inr ha)
  refine ⟨o, e2.keep a o g1 n1, h2, fun z => ?_⟩
  rcases e2.new a z with z | z
  · exact n1 z
  · rw [g1] at z; cases z
theorem repsL_weak {K : PySem.W.Frag} {W : Addr → Prop} {ω : List (Option Addr)} {μ : List Addr} {S : Sto} {H : Hp} (s : Sim K cl (Wo W ω) μ S H) (hw : ∀ a, some a ∈ ω → ¬ W a) : ∀ {xs : List Vl} {vs : List V}, RepsL K cl W ω μ H xs vs → Reps K cl (Bn W μ) μ H xs vs
  | _, _, .nil => .nil
  | _, _, .cons r t => .cons (by
      rcases r with r | ⟨a, rfl, ha, at_⟩
      · exact r.mono (Kp.weak wo_left)
      · exact (at_.mono (Kp.weak wo_left) fun _ q => q).rep fun z => z.elim (fun z => s.dis a z (.inr ha)) (hw a ha)) (repsL_weak s hw t)
def callL (f : List Vl → Sto → Res Vl) (a : AM) : EM := fun env S => if envOk env = true then (a env S).bind fun xs S1 => (match f xs S1 with
    | .ok x S2 => if nlB x && stOk S2 then .ok x S2 else .bad
    | .exc c ns ys S2 => if nlBs ys && stOk S2 then .exc c ns ys S2 else .bad
    | .bad => .bad) else .bad
theorem call_lt (hn : LenA mA n) {σ : St} {H : Hp} {Q : VK} (h : tD X.K cl E (callL f mA) σ H Q) : tCall (spM X.K cl n f) [] E (tLA X.K cl E mA) σ H Q := by
  obtain ⟨W, ω, μ, S, env, rl, q⟩ := h
  unfold callL at q
  by_cases hk : envOk env = true
  · rw [if_pos hk] at q
    refine ⟨W, ω, μ, S, env, rl, q.bind.mono fun xs S1 μ1 H1 ee s1 e1 q1 vs rs => ?_⟩
    show spM X.K cl n f (vs ++ []) H1 Q E
    rw [List.append_nil]
    refine ⟨W, μ1, S1, xs, s1.weak wo_left, repsL_weak s1 rl.ow rs, hn _ _ _ _ ee, ?_⟩
    have hB : ∀ {μ2 : List Addr} {H2 : Hp}, Ext μ1 H1 μ2 H2 → ∀ a, Wo W ω a → W a ∨ ∃ o, H2 a = some o ∧ SqO o ∧ a ∉ μ2 := fun e2 a z => z.elim .inl fun z => .inr (own_keep rl hk e1 s1 e2 z)
    revert q1
    generalize f xs S1 = r
    intro q1
    cases r with
    | bad => exact q1.elim
    | exc c ns ys S2 =>
      dsimp only at q1
      split at q1
      · rename_i hz
        simp only [Bool.and_eq_true] at hz
        intro μ2 H2 d s2 e2 x
        obtain ⟨fs, x1, x2, x3⟩ := x
        exact q1 μ2 H2 d (s2.ban (hB e2) hz.2) e2 ⟨fs, x1, x2, x3.ban (bn_ban (hB e2)) hz.1⟩
      · exact q1.elim
    | ok x S2 =>
      dsimp only at q1
      split at q1
      · rename_i hz
        simp only [Bool.and_eq_true] at hz
        intro μ2 H2 s2 e2 v rv
        exact q1 μ2 H2 (s2.ban (hB e2) hz.2) e2 v (rv.ban (bn_ban (hB e2)) hz.1)
      · exact q1.elim
  · rw [if_neg hk] at q
    exact q.elim
def makeL (f : Addr → List Vl → Sto → Res Vl) (a : AM) : EM := fun env S => if envOk env = true then (a env S).bind fun xs S1 => (match f 0 xs S1 with
    | .ok x S2 => if nlO x && stOk S2 then .ok x S2 else .bad
    | .exc c ns ys S2 => if nlBs ys && stOk S2 then .exc c ns ys S2 else .bad
    | .bad => .bad) else .bad
theorem make_lt (hb : Blind fi) (hn : LenA mA n) {σ : St} {H : Hp} {Q : VK} (h : tN X.K cl E (makeL fi mA) σ H Q) : tMake (cl c) (spI X.K cl c n fi) [] E (tLA X.K cl E mA) σ H Q := by
  obtain ⟨W, ω, μ, S, env, rl, q⟩ := h
  unfold makeL at q
  by_cases hk : envOk env = true
  · rw [if_pos hk] at q
    refine ⟨W, ω, μ, S, env, rl, q.bind.mono fun xs S1 μ1 H1 ee s1 e1 q1 vs rs x dx hx hdx hne => ?_⟩
    rw [List.append_nil]
    have wn : ∀ a, Wo W [] a → W a := fun a z => z.elim id fun z => by simp at z
    refine make_core (W := W) (ω := []) hb (s1.weak fun a z => .inl (wn a z)) ((repsL_weak s1 rl.ow rs).mono (Kp.weak wn)) (hn _ _ _ _ ee) ?_ x dx hx hdx hne
    have hB : ∀ {μ2 : List Addr} {H2 : Hp}, Ext μ1 H1 μ2 H2 → ∀ a, Wo W ω a → Wo W [] a ∨ ∃ o, H2 a = some o ∧ SqO o ∧ a ∉ μ2 := fun e2 a z => z.elim (fun z => .inl (.inl z)) fun z => .inr (own_keep rl hk e1 s1 e2 z)
    have hB2 : ∀ {μ2 : List Addr} {H2 : Hp}, Ext μ1 H1 μ2 H2 → ∀ p a, Wa (Wo W ω) p a → Wa (Wo W []) p a ∨ ∃ o, H2 a = some o ∧ SqO o ∧ a ∉ μ2 := fun e2 p a z => z.elim (fun z => (hB e2 a z).elim (fun z => .inl (.inl z)) .inr) fun z => .inl (.inr z)
    revert q1
    generalize fi 0 xs S1 = r
    intro q1
    cases r with
    | bad => exact q1.elim
    | exc c ns ys S2 =>
      dsimp only at q1
      split at q1
      · rename_i hz
        simp only [Bool.and_eq_true] at hz
        intro μ2 H2 d s2 e2 x
        obtain ⟨fs, x1, x2, x3⟩ := x
        exact q1 μ2 H2 d (s2.ban (hB e2) hz.2) e2 ⟨fs, x1, x2, x3.ban (bn_ban (hB e2)) hz.1⟩
      · exact q1.elim
    | ok y S2 =>
      dsimp only at q1
      split at q1
      · rename_i hz
        simp only [Bool.and_eq_true] at hz
        intro μ2 H2 s2 e2 p hp sp at_
        exact q1 μ2 H2 (s2.ban (hB e2) hz.2) e2 p (fresh_back e1 hp) (sp.ban (hB2 e2 p) hz.2) (at_.ban (bn_ban (hB2 e2 p)) hz.1)
      · exact q1.elim
  · rw [if_neg hk] at q
    exact q.elim
end
end Dm

set_option Elab.async false
set_option linter.all false
set_option maxRecDepth 100000
set_option autoImplicit false
set_option maxHeartbeats 1000000
/-! DmH: what a law's text needs around the rules: a, b = x, y with own objects; keywords; the head's hook with facts of any kind; the end. -/
namespace Dm
open PySem PySem.Spec L2
section
variable {X : Cx} {cl : Cl} {E : XK} {st : Stmt} {m1 m2 : EM} {i j : Nat}
/-- one more banned object that no name holds -/
theorem Rl.banNew {K : PySem.W.Frag} {W : Addr → Prop} {ω : List (Option Addr)} {μ μ' : List Addr} {S S' : Sto} {env : List Sv} {σ : St} {H H' : Hp} (r : Rl K cl W ω μ S env σ H) (e : Ext μ H μ' H') {a : Addr} (ha : H a = none) (s : Sim K cl (Wa (Wo W ω) a) μ' S' H') : Rl K cl (Wa W a) ω μ' S' env σ H' := by
  have kp : Kp (Bn (Wo W ω) μ) (Bn (Wo (Wa W a) ω) μ') μ μ' H H' := ⟨fun b o q n => ⟨e.keep b o q fun z => n (.inl z), fun z => by
      rcases z with z | z
      · rcases e.new b z with z | z
        · exact n (.inl z)
        · rw [q] at z; cases z
      · rcases (wo_wa b).mpr z with z | z
        · exact n (.inr z)
        · rw [z, ha] at q; cases q⟩, e.pre⟩
  refine ⟨s.weak fun b z => (wo_wa b).mpr z, r.l1, r.l2, fun j ee o s' h1 h2 h3 => (r.at_ j ee o s' h1 h2 h3).mono kp fun b u z q => e.keep b u q fun hm => r.sim.dis b hm (.inr (by rw [← z]; exact List.mem_of_getElem? h2)), r.od, fun b z y => ?_⟩
  rcases y with y | y
  · exact r.ow b z y
  · exact r.sim.trk b (.inr z) (by rw [y]; exact ha)
def parOO (i j : Nat) (m1 m2 : EM) : SM := fun env S => (m1 env S).bind fun x S1 => (m2 env S1).bind fun y S2 => if i < env.length ∧ j < env.length then .ok (.nx ((env.set i (.ow x)).set j (.ow y))) S2 else .bad
def parOV2 (i j : Nat) (m1 m2 : EM) : SM := fun env S => (m1 env S).bind fun x S1 => (m2 env S1).bind fun y S2 => if i < env.length then .ok (.nx ((env.set i (.ow x)).set j (.v y))) S2 else .bad
theorem ds_parOO {t1 t2 : TE} (h : PS X st (tPar i j (tCons t1 (tCons t2 tNil)))) (h1 : ∀ σ H Q, tN X.K cl E m1 σ H Q → t1 σ H Q) (h2 : ∀ σ H Q, tN X.K cl E m2 σ H Q → t2 σ H Q) : PS X st (tS X.K cl E (parOO i j m1 m2)) := h.imp fun D σ H ⟨W, ω, μ, S, env, rl, q⟩ => by
  refine h1 _ _ _ ⟨W, ω, μ, S, env, rl, q.back.mono fun x S1 μ1 H1 _ s1 e1 q1 a ha sa ata => h2 _ _ _ ⟨Wa W a, ω, μ1, S1, env, rl.banNew e1 ha sa, ?_⟩⟩
  revert q1
  generalize m2 env S1 = r
  intro q1
  cases r with
  | bad => exact q1.elim
  | exc c ns ys S2 =>
    intro μ2 H2 d s2 e2 x
    obtain ⟨fs, x1, x2, x3⟩ := x
    have sub : ∀ b, W b → Wo (Wa W a) ω b := fun b z => .inl (.inl z)
    exact q1 μ2 H2 d (s2.weak sub) ((e1.s.trans e2.s).drop fun _ z => nomatch z) ⟨fs, x1, x2, x3.mono (Kp.weak sub)⟩
  | ok y S2 =>
    intro μ2 H2 s2 e2 b hb sb atb
    dsimp only [Res.bind] at q1
    by_cases hl : i < env.length ∧ j < env.length
    · rw [if_pos hl] at q1
      have r1 := rl.setOwn e1 ha sa ata i (by rw [rl.l2, ← rl.l1]; exact hl.1)
      have sub : ∀ z, Wa (Wo W (ω.set i (some a))) b z → Wa (Wo (Wa W a) ω) b z := fun z k => k.elim (fun k => .inl (k.elim (fun k => .inl (.inl k)) fun k => (List.mem_or_eq_of_mem_set k).elim .inr fun k => .inl (.inr (Option.some.inj k)))) .inr
      have r2 := r1.setOwn e2 hb (sb.weak sub) (atb.mono (Kp.weak sub) fun _ q => q) j (by rw [List.length_set, rl.l2, ← rl.l1]; exact hl.2)
      exact ⟨.ref a, .ref b, rfl, q1 _ μ2 _ H2 r2 ((ExtS.ownNew e1 ha).trans (ExtS.ownNew e2 hb))⟩
    · rw [if_neg hl] at q1
      exact q1.elim
theorem ds_parOV {t1 t2 : TE} (h : PS X st (tPar i j (tCons t1 (tCons t2 tNil)))) (h1 : ∀ σ H Q, tN X.K cl E m1 σ H Q → t1 σ H Q) (h2 : ∀ σ H Q, tD X.K cl E m2 σ H Q → t2 σ H Q) : PS X st (tS X.K cl E (parOV2 i j m1 m2)) := h.imp fun D σ H ⟨W, ω, μ, S, env, rl, q⟩ => by
  refine h1 _ _ _ ⟨W, ω, μ, S, env, rl, q.back.mono fun x S1 μ1 H1 _ s1 e1 q1 a ha sa ata => h2 _ _ _ ⟨Wa W a, ω, μ1, S1, env, rl.banNew e1 ha sa, ?_⟩⟩
  revert q1
  generalize m2 env S1 = r
  intro q1
  cases r with
  | bad => exact q1.elim
  | exc c ns ys S2 =>
    intro μ2 H2 d s2 e2 x
    obtain ⟨fs, x1, x2, x3⟩ := x
    have sub : ∀ b, W b → Wo (Wa W a) ω b := fun b z => .inl (.inl z)
    exact q1 μ2 H2 d (s2.weak sub) ((e1.s.trans e2.s).drop fun _ z => nomatch z) ⟨fs, x1, x2, x3.mono (Kp.weak sub)⟩
  | ok y S2 =>
    intro μ2 H2 s2 e2 v rv
    dsimp only [Res.bind] at q1
    by_cases hl : i < env.length
    · rw [if_pos hl] at q1
      have r1 := rl.setOwn e1 ha sa ata i (by rw [rl.l2, ← rl.l1]; exact hl)
      have sub : ∀ z, Wo W (ω.set i (some a)) z → Wo (Wa W a) ω z := fun z k => k.elim (fun k => .inl (.inl k)) fun k => (List.mem_or_eq_of_mem_set k).elim .inr fun k => .inl (.inr (Option.some.inj k))
      have r2 := (r1.ext e2 (s2.weak sub)).set (rv.mono (Kp.weak sub)) j
      exact ⟨.ref a, v, rfl, q1 _ μ2 _ H2 r2 ((ExtS.ownNew e1 ha).trans (e2.s.drop fun _ z => mem_set_none z))⟩
    · rw [if_neg hl] at q1
      exact q1.elim
end
/-! ### what a callee lets out, around a body -/
theorem passB {P : Program} {w : World} {K : PySem.W.Frag} {mg : Str → Option Value} {base : Heap} {N : List Str} {qual : Str} {scope : Scope} {f : Addr} {cdv : Value} {A : Around} {outer : List Env} {s : Shared} {H : Hp} {E : XK} :
    Passes (L2.CX P w) (cxOf (L2.CX P w) P w K mg base N qual scope f cdv A outer s H E) E := passes_call (takes_of rfl rfl rfl rfl) fun _ _ _ _ h => h
theorem passO {P : Program} {w : World} {K : PySem.W.Frag} {mg : Str → Option Value} {base : Heap} {N : List Str} {qual : Str} {scope : Scope} {f : Addr} {cdv : Value} {A : Around} {outer : List Env} {s : Shared} {H : Hp} {E : XK} :
    PassesOwn (model P w) (cxOf (L2.CX P w) P w K mg base N qual scope f cdv A outer s H E).A (cxOf (L2.CX P w) P w K mg base N qual scope f cdv A outer s H E).env (cxOf (L2.CX P w) P w K mg base N qual scope f cdv A outer s H E).xe := passes_of rfl
theorem hu_of {k : Nat} {A : Around} (hr : Room k A) : A.units + 1 < cLine := by have := hr.un; omega
/-! ### keywords -/
section
variable {X : Cx} {cl : Cl} {E : XK} {e : Expr} {m : EM} {mA : AM} {kws : List Keyword} {nm : Option Str} {kpos : Pos}
theorem _root_.L2.PK.imp {t t' : TA} (h : PK X kws t) (k : ∀ σ H Q, t' σ H Q → t σ H Q) : PK X kws t' := ⟨fun pos pins s σ H Q I q => h.run pos pins s σ H Q I (k σ H Q q)⟩
theorem dk_nil : PK X [] (tDA X.K cl E nilA) := pk_nil.imp fun σ H Q ⟨W, ω, μ, S, env, rl, q⟩ => q μ H rl.sim Ext.refl [] .nil
theorem dk_cons (ha : PE X e (tD X.K cl E m)) (hr : PK X kws (tDA X.K cl E mA)) : PK X (⟨nm, e, kpos⟩ :: kws) (tDA X.K cl E (consA m mA)) :=
  (pk_cons ha hr).imp fun σ H Q ⟨W, ω, μ, S, env, rl, q⟩ => ⟨W, ω, μ, S, env, rl, q.bind.mono fun x S1 μ1 H1 _ s1 e1 q1 v rv => ⟨W, ω, μ1, S1, env, rl.ext e1 s1, q1.bind.mono fun xs S2 μ2 H2 _ s2 e2 q2 vs rs => q2 μ2 H2 s2 Ext.refl _ (.cons (rv.mono e2.kp) rs)⟩⟩
/-- the items at the places ix -/
def pick {α : Type} (ix : List Nat) (zs : List α) : List α := ix.filterMap fun i => zs[i]?
theorem pick_reps {K : PySem.W.Frag} {B : Addr → Prop} {μ : List Addr} {H : Hp} {xs : List Vl} {vs : List V} (r : Reps K cl B μ H xs vs) : ∀ ix : List Nat, Reps K cl B μ H (pick ix xs) (pick ix vs)
  | [] => .nil
  | i :: ix => by
    have t := pick_reps r ix
    unfold pick at t ⊢
    cases hx : xs[i]? with
    | none =>
      have hv : vs[i]? = none := by
        rw [List.getElem?_eq_none_iff] at hx ⊢
        rw [← r.length]; exact hx
      rw [List.filterMap_cons, List.filterMap_cons, hx, hv]
      exact t
    | some x =>
      obtain ⟨v, hv, rv⟩ := r.get hx
      rw [List.filterMap_cons, List.filterMap_cons, hx, hv]
      exact .cons rv t
theorem pick_vals {vs : List V} {us : List Value} (r : Vals vs us) : ∀ ix : List Nat, Vals (pick ix vs) (pick ix us)
  | [] => .nil
  | i :: ix => by
    have t := pick_vals r ix
    unfold pick at t ⊢
    cases hx : vs[i]? with
    | none =>
      have hv : us[i]? = none := by
        rw [List.getElem?_eq_none_iff] at hx ⊢
        rw [← r.length]; exact hx
      rw [List.filterMap_cons, List.filterMap_cons, hx, hv]
      exact t
    | some x =>
      obtain ⟨v, hv, rv⟩ := r.get hx
      rw [List.filterMap_cons, List.filterMap_cons, hx, hv]
      exact .cons rv t
end
section
variable {K : PySem.W.Frag} {x qual : Str} {params : Arguments} {body : List Stmt} {scope : Scope} {kws : List (Str × V)} {f : Addr} {fd : FuncData} {ps : List Str}
/-- all parameters by keywords, but for the first n -/
theorem kbindsN (F : FunD K x qual params body scope [] kws f fd) (n : Nat) (ks : List Str) (ix : List Nat)
    (h : ∀ (kV doc pm : Value) (an : Option Addr) (cdv ct : Value) (us ws : List Value), us.length = n → ws.length = ks.length → bindArgs (PySem.W.fnOf x qual params body scope .none kV doc pm an cdv ct) ⟨us, ks.zip ws⟩ = pure (ps.zip (us ++ pick ix ws))) :
    KBn K fd ps n ks (fun us ws => us ++ pick ix ws) (fun vs zs => vs ++ pick ix zs) := by
  obtain ⟨oc, od, dV, kV, doc, pm, an, cdv, ct, osl, rfl, lk, hcd, hD, hK⟩ := F.ex
  rcases hD with ⟨_, rfl⟩ | ⟨e, _⟩
  · exact ⟨fun s us ws _ l1 l2 => .of_eq (h kV doc pm an cdv ct us ws l1 l2), fun r1 r2 => r1.append (pick_vals r2 ix)⟩
  · exact absurd rfl e
end
section
variable {X : Cx} {cl : Cl} {E : XK} {mA : AM} {c n : Nat} {f : Addr → List Vl → Sto → Res Vl} {ix : List Nat}
def makeK (f : Addr → List Vl → Sto → Res Vl) (ix : List Nat) (a : AM) : EM := fun env S => (a env S).bind fun xs S1 => f 0 (pick ix xs) S1
theorem make_kt (hb : Blind f) (hn : LenA mA n) (hi : ∀ xs : List Vl, xs.length = n → (pick ix xs).length = n) {σ : St} {H : Hp} {Q : VK} (h : tN X.K cl E (makeK f ix mA) σ H Q) : tMakeK (cl c) 0 n (spI X.K cl c n f) (fun vs zs => vs ++ pick ix zs) E tNil (tDA X.K cl E mA) σ H Q := by
  obtain ⟨W, ω, μ, S, env, rl, q⟩ := h
  refine ⟨W, ω, μ, S, env, rl, q.bind.mono fun xs S1 μ1 H1 ee s1 e1 q1 vs rs => ⟨rfl, by rw [← rs.length]; exact hn _ _ _ _ ee, fun x dx hx hdx hne => ?_⟩⟩
  exact make_core hb s1 (pick_reps rs ix) (hi _ (hn _ _ _ _ ee)) (q1.mono fun y S2 μ2 H2 _ s2 e2 q2 a ha => q2 a (fresh_back e1 ha)) x dx hx hdx hne
end
section
variable {X : Cx} {cl : Cl} {E : XK} {k n : Nat} {g C : Addr} {fd : FuncData} {ps : List Str} {f : List Vl → Sto → Res Vl} {fi : Addr → List Vl → Sto → Res Vl} {ds : List Value} {dvs : List V} {x : Str} {e : Expr} {es : List Expr} {mA : AM} {p pos : Pos}
theorem d_call (F : FnOk X.prog X.w X.K X.mg X.base (L2.CX X.prog X.w) k g fd ps (spM X.K cl n f)) (hr : Room k X.A) (hg : Gl X x) (hm : X.mg x = some (.ref g)) (hk : PySem.W.keepIn X.K (.ref g) = true) (hb : Binds X.K fd ps []) (hx : Passes (L2.CX X.prog X.w) X E) (ha : PA X (e :: es) (tDA X.K cl E mA)) (hn : LenA mA n)
    (hdb : (x == ("__debug__" : Str)) = false := by decide) (he : starEach (e :: es) X.env = (false, eval e X.env) :: starEach es X.env := by rfl) (hpl : (backTo pos (starEach es X.env)).any (·.1) = false := by rfl) : PE X (.Call (.Name x p) (e :: es) [] pos) (tD X.K cl E (callM f mA)) :=
  (pe_call F hr hg hm hk hb .nil hx ha hdb he hpl).imp fun _ _ _ z => call_t hn z
theorem d_callL (F : FnOk X.prog X.w X.K X.mg X.base (L2.CX X.prog X.w) k g fd ps (spM X.K cl n f)) (hr : Room k X.A) (hg : Gl X x) (hm : X.mg x = some (.ref g)) (hk : PySem.W.keepIn X.K (.ref g) = true) (hb : Binds X.K fd ps []) (hx : Passes (L2.CX X.prog X.w) X E) (ha : PA X (e :: es) (tLA X.K cl E mA)) (hn : LenA mA n)
    (hdb : (x == ("__debug__" : Str)) = false := by decide) (he : starEach (e :: es) X.env = (false, eval e X.env) :: starEach es X.env := by rfl) (hpl : (backTo pos (starEach es X.env)).any (·.1) = false := by rfl) : PE X (.Call (.Name x p) (e :: es) [] pos) (tD X.K cl E (callL f mA)) :=
  (pe_call F hr hg hm hk hb .nil hx ha hdb he hpl).imp fun _ _ _ z => call_lt hn z
theorem d_callD {k2 : Nat} {dl : List Vl} (F : FnOk X.prog X.w X.K X.mg X.base (L2.CX X.prog X.w) k g fd ps (spM X.K cl n f)) (hr : Room k X.A) (hg : Gl X x) (hm : X.mg x = some (.ref g)) (hk : PySem.W.keepIn X.K (.ref g) = true) (hb : Binds X.K fd ps ds) (hd : Vals dvs ds) (hx : Passes (L2.CX X.prog X.w) X E) (ha : PA X (e :: es) (tDA X.K cl E mA)) (hn : LenA mA k2) (hl : k2 + dl.length = n) (hv : ∀ B μ H, Reps X.K cl B μ H dl dvs)
    (hdb : (x == ("__debug__" : Str)) = false := by decide) (he : starEach (e :: es) X.env = (false, eval e X.env) :: starEach es X.env := by rfl) (hpl : (backTo pos (starEach es X.env)).any (·.1) = false := by rfl) : PE X (.Call (.Name x p) (e :: es) [] pos) (tD X.K cl E (callD f dl mA)) :=
  (pe_call F hr hg hm hk hb hd hx ha hdb he hpl).imp fun _ _ _ z => call_td hn hl hv z
theorem d_call0 (F : FnOk X.prog X.w X.K X.mg X.base (L2.CX X.prog X.w) k g fd ps (spM X.K cl 0 f)) (hr : Room k X.A) (hg : Gl X x) (hm : X.mg x = some (.ref g)) (hk : PySem.W.keepIn X.K (.ref g) = true) (hb : Binds X.K fd ps []) (hx : Passes (L2.CX X.prog X.w) X E)
    (hdb : (x == ("__debug__" : Str)) = false := by decide) : PE X (.Call (.Name x p) [] [] pos) (tD X.K cl E (callM f nilA)) :=
  (pe_call0 F hr hg hm hk hb .nil hx hdb).imp fun σ H Q z => by
    obtain ⟨W, ω, μ, S, env, rl, q⟩ := call_t lenA_nil z
    exact q μ H rl.sim Ext.refl [] .nil
variable {c : Nat}
theorem d_make (M : Mk X.K (cl c) g) (F : FnOk X.prog X.w X.K X.mg X.base (L2.CX X.prog X.w) k g fd ps (spI X.K cl c n fi)) (hr : Room (k + 1) X.A) (hg : Gl X x) (hm : X.mg x = some (.ref (cl c))) (hb : Binds X.K fd ps []) (hx : Passes (L2.CX X.prog X.w) X E) (ha : PA X (e :: es) (tDA X.K cl E mA)) (hn : LenA mA n) (hbl : Blind fi)
    (hdb : (x == ("__debug__" : Str)) = false := by decide) (he : starEach (e :: es) X.env = (false, eval e X.env) :: starEach es X.env := by rfl) (hpl : (backTo pos (starEach es X.env)).any (·.1) = false := by rfl) : PE X (.Call (.Name x p) (e :: es) [] pos) (tN X.K cl E (makeM fi mA)) :=
  (pe_make M F hr hg hm hb .nil hx ha hdb he hpl).imp fun _ _ _ z => make_t hbl hn z
theorem d_makeL (M : Mk X.K (cl c) g) (F : FnOk X.prog X.w X.K X.mg X.base (L2.CX X.prog X.w) k g fd ps (spI X.K cl c n fi)) (hr : Room (k + 1) X.A) (hg : Gl X x) (hm : X.mg x = some (.ref (cl c))) (hb : Binds X.K fd ps []) (hx : Passes (L2.CX X.prog X.w) X E) (ha : PA X (e :: es) (tLA X.K cl E mA)) (hn : LenA mA n) (hbl : Blind fi)
    (hdb : (x == ("__debug__" : Str)) = false := by decide) (he : starEach (e :: es) X.env = (false, eval e X.env) :: starEach es X.env := by rfl) (hpl : (backTo pos (starEach es X.env)).any (·.1) = false := by rfl) : PE X (.Call (.Name x p) (e :: es) [] pos) (tN X.K cl E (makeL fi mA)) :=
  (pe_make M F hr hg hm hb .nil hx ha hdb he hpl).imp fun _ _ _ z => make_lt hbl hn z
theorem d_makeK {ks : List Str} {ix : List Nat} {kws : List Keyword} (M : Mk X.K (cl c) g) (F : FnOk X.prog X.w X.K X.mg X.base (L2.CX X.prog X.w) k g fd ps (spI X.K cl c ks.length fi)) (hr : Room (k + 1) X.A) (hg : Gl X x) (hm : X.mg x = some (.ref (cl c))) (hb : KBn X.K fd ps 1 ks (fun us ws => us ++ pick ix ws) (fun vs zs => vs ++ pick ix zs)) (hx : Passes (L2.CX X.prog X.w) X E) (ha : PK X kws (tDA X.K cl E mA)) (hn : LenA mA ks.length) (hbl : Blind fi) (hi : ∀ xs : List Vl, xs.length = ks.length → (pick ix xs).length = ks.length)
    (hall : (backToKw pos (keywordEach kws X.env)).all (·.1.isSome) = true := by rfl) (hks : (backToKw pos (keywordEach kws X.env)).filterMap (·.1) = ks := by rfl) (hdb : (x == ("__debug__" : Str)) = false := by decide)
    (hpl : ((backTo pos (starEach [] X.env)).any (·.1) || (backToKw pos (keywordEach kws X.env)).any (·.1.isNone)) = false := by rfl) : PE X (.Call (.Name x p) [] kws pos) (tN X.K cl E (makeK fi ix mA)) :=
  (pe_makeK0 M F hr hg hm hb hx ha hall hks hdb hpl).imp fun _ _ _ z => make_kt hbl hn hi z
theorem d_meth {nm : Str} {o : Expr} {m : EM} {apos : Pos} {pl : Sem Bool} (ho : PE X o (tD X.K cl E m)) (hc : Cls X.K (cl c)) (hm : Meth X.K (cl c) nm g) (F : FnOk X.prog X.w X.K X.mg X.base (L2.CX X.prog X.w) k g fd ps (spM X.K cl (n + 1) f)) (hr : Room k X.A) (hb : Binds X.K fd ps []) (hx : Passes (L2.CX X.prog X.w) X E) (ha : PA X (e :: es) (tDA X.K cl E mA)) (hn : LenA mA n)
    (hst : starEach (e :: es) X.env = (false, eval e X.env) :: starEach es X.env := by rfl) (hpl : (backTo pos (starEach es X.env)).any (·.1) = false := by rfl)
    (ht : eval (.Call (.Attribute o nm apos) (e :: es) [] pos) X.env = (do
      let ov ← eval o X.env
      standAt apos.atName
      let (f, first) ← holding [ov] (getMethod ov nm pl)
      callWith pos f first (backTo pos (starEach (e :: es) X.env)) (backToKw pos (keywordEach [] X.env))) := by rfl) : PE X (.Call (.Attribute o nm apos) (e :: es) [] pos) (tD X.K cl E (methM c nm f m mA)) :=
  (pe_meth ho hc hm F hr hb .nil hx ha hst hpl ht).imp fun _ _ _ z => meth_t hn z
theorem d_meth0 {nm : Str} {o : Expr} {m : EM} {apos : Pos} {pl : Sem Bool} (ho : PE X o (tD X.K cl E m)) (hc : Cls X.K (cl c)) (hm : Meth X.K (cl c) nm g) (F : FnOk X.prog X.w X.K X.mg X.base (L2.CX X.prog X.w) k g fd ps (spM X.K cl 1 f)) (hr : Room k X.A) (hb : Binds X.K fd ps []) (hx : Passes (L2.CX X.prog X.w) X E)
    (ht : eval (.Call (.Attribute o nm apos) [] [] pos) X.env = (do
      let ov ← eval o X.env
      standAt apos.atName
      let (f, first) ← holding [ov] (getMethod ov nm pl)
      callWith pos f first (backTo pos (starEach [] X.env)) (backToKw pos (keywordEach [] X.env))) := by rfl) : PE X (.Call (.Attribute o nm apos) [] [] pos) (tD X.K cl E (methM c nm f m nilA)) :=
  (pe_meth0 ho hc hm F hr hb .nil hx ht).imp fun _ _ _ z => meth_t0 z
end
/-! ### the head's hook, with facts of any kind -/
abbrev Fx := PySem.W.Frag → Bool
abbrev AlX : Type := Bool × He.AlD
def obsX (fx : List Fx) (fa : List He.Fa) (fn : List He.DefD) (K : PySem.W.Frag) : AlX := (fx.all fun f => f K, He.obsD fa fn K)
def obsXG (n : Nat) (fx : List Fx) (fa : List He.Fa) (fn : List He.DefD) (g : Addr → Option Obj) : AlX := obsX fx fa fn (He.frG g (He.asD g n))
structure SaysX (fx : List Fx) (fa : List He.Fa) (fn : List He.DefD) (K : PySem.W.Frag) : Prop where
  x : (fx.all fun f => f K) = true
  d : He.SaysD fa fn K
def hookX (n : Nat) (fx : List Fx) (fa : List He.Fa) (fn : List He.DefD) : PySem.W.Hook where
  α := AlX
  obs := fun s => obsXG n fx fa fn s.heap.get?
  val := fun _ => (true, He.valD fn)
  says := fun _ h => ∃ K : PySem.W.Frag, K.In h ∧ SaysX fx fa fn K
  of := fun _ _ e => ⟨_, He.frG_in, ⟨congrArg (fun z : AlX => z.1) e, congrArg (fun z : AlX => z.2) e⟩⟩
  keeps := fun _ _ _ ⟨K, hK, c⟩ k => ⟨K, PySem.W.Frag.In.keeps hK k, c⟩
theorem obsXG_eq {n : Nat} {fx : List Fx} {fa : List He.Fa} {fn : List He.DefD} {g : Addr → Option Obj} {s : Shared} (h : ∀ a, g a = s.heap.get? a) : obsXG n fx fa fn g = (hookX n fx fa fn).obs s := by
  have e : g = s.heap.get? := funext h
  rw [e] <;> rfl
theorem SaysX.fx {fx : List Fx} {fa : List He.Fa} {fn : List He.DefD} {K : PySem.W.Frag} (c : SaysX fx fa fn K) (i : Nat) {f : Fx} (h : fx[i]? = some f := by rfl) : f K = true := List.all_eq_true.mp c.x f (List.mem_of_getElem? h)
/-! ### the end -/
theorem walk_ofW {l : PySem.W.OpenLaw} {n k : Nat} {q : Program} {loose : List Str} {XP : (Str → Option Value) → Heap → Prop} {YP : World → Heap → Prop} {d : DefRec} {CX : World → CXT} {x : Str}
    (hn : l.most = some n) (hn2 : n ≤ sizeLine) (hdf : d.params.defaults = []) (hr : Room k callerA)
    (F : ∀ (w : World) (mg : Str → Option Value) (fa : Addr) (h : Heap), YP w h → h.Ns mainGlobals mg → mg d.name = some (.ref fa) →
      ∃ (K : PySem.W.Frag) (fd : FuncData) (sp : Sp), K.In h ∧ (∀ (s : Shared) (u : Value), BindsTo s fd ⟨[u], []⟩ [(x, u)]) ∧
        (∀ (H : Hp) (a : Addr) (ns : List Int), ns.length ≤ n → SqL K H a (ns.map V.int) → sp [.ref a] H (fun v _ => v = .bl true) fun _ _ _ => False) ∧
        ∀ base : Heap, K.In base → base.Ns mainGlobals mg → FnOk l.prog w K mg base (CX w) k fa fd [x] sp)
    (hCX : ∀ (w : World) (H : Hp) (s : Shared) (e : Value) (s' : Shared), CX w [] H s (fun _ _ _ => False) e s' → False) :
    PySem.W.WalkO q loose XP YP l.row.toRowW d [] (fun f vs => PySem.call f vs) := by
  refine Att.attach_call hn hdf fun w s₀ s₁ mg mb fa o pm cd doc a vs ns G Y ho hd hcd hmg hobj hints hlen hg => ?_
  obtain ⟨K, fd, sp, KX, hb, hsp, hF⟩ := F w mg fa _ Y G.T.g hmg
  exact law_call KX G.T.g G.T.b G.T.builtins G.T.nolimit hg hobj hints (Nat.le_trans hlen hn2) hr hF hb (fun H _ hS => hsp H a ns hlen hS) fun H e s' => hCX w H s₁ e s'
theorem noCX {P : Program} {w : World} {H : Hp} {s : Shared} {e : Value} {s' : Shared} (h : L2.CX P w [] H s (fun _ _ _ => False) e s') : False := by
  obtain ⟨_, _, _, _, _, _, _, _, _, _, _, _, z⟩ := h
  exact z
/-- the law's mirror says True -/
theorem sp_law {K : PySem.W.Frag} {cl : Cl} {f : List Vl → Sto → Res Vl} {n : Nat} (h : ∀ ns : List Int, ns.length ≤ n → ∃ S, f [.scr ns] [] = .ok (.bl true) S) (H : Hp) (a : Addr) (ns : List Int) (hl : ns.length ≤ n) (hS : SqL K H a (ns.map V.int)) :
    spM K cl 1 f [.ref a] H (fun v _ => v = .bl true) fun _ _ _ => False := by
  obtain ⟨S, e⟩ := h ns hl
  have s0 : Sim K cl (fun _ => False) [] [] H := ⟨rfl, List.nodup_nil, fun _ h => (nomatch h), fun _ h => False.elim h, fun n x e => (by cases e)⟩
  refine ⟨fun _ => False, [], [], [.scr ns], s0, .cons (.scr ?_) .nil, rfl, ?_⟩
  · rcases hS with h | h
    · exact .inl ⟨h, fun (z : Bn (fun _ => False) [] a) => Or.elim z (fun z => nomatch z) fun z => z⟩
    · exact .inr h
  · rw [e]
    intro μ' H' _ _ v r
    cases r
    rfl
end Dm

set_option Elab.async false
set_option linter.all false
set_option maxRecDepth 100000
set_option autoImplicit false
set_option maxHeartbeats 1000000
/-! DmI: a mirror does not see the new instance's address. -/
namespace Dm
open PySem PySem.Spec L2
def rn (p : Addr) : Sv → Sv
  | .sf _ x => .sf p x
  | s => s
def BE {α : Type} (m : List Sv → Sto → Res α) : Prop := ∀ (p : Addr) (env : List Sv) (S : Sto), m (env.map (rn p)) S = m env S
def Res.mp {α β : Type} (g : α → β) : Res α → Res β
  | .ok a S => .ok (g a) S
  | .exc c ns xs S => .exc c ns xs S
  | .bad => .bad
def rnF (p : Addr) : Fl → Fl
  | .nx e => .nx (e.map (rn p))
  | .bk e => .bk (e.map (rn p))
  | .ct e => .ct (e.map (rn p))
  | .rt x => .rt x
def BS (b : SM) : Prop := ∀ (p : Addr) (env : List Sv) (S : Sto), b (env.map (rn p)) S = (b env S).mp (rnF p)
def BF (f : TF) : Prop := ∀ (p : Addr) (x : Vl) (env : List Sv), f x (env.map (rn p)) = (f x env).map (List.map (rn p))
def BFs (f : TFs) : Prop := ∀ (p : Addr) (x : List Vl) (env : List Sv), f x (env.map (rn p)) = (f x env).map (List.map (rn p))
theorem mp_bind {α β γ : Type} (g : β → γ) (r : Res α) (k : α → Sto → Res β) : (r.bind k).mp g = r.bind fun a S => (k a S).mp g := by cases r <;> rfl
theorem bind_mp {α β γ : Type} (g : α → β) (r : Res α) (k : β → Sto → Res γ) : (r.mp g).bind k = r.bind fun a S => k (g a) S := by cases r <;> rfl
theorem bind_congr {α β : Type} {r : Res α} {k k' : α → Sto → Res β} (h : ∀ a S, k a S = k' a S) : r.bind k = r.bind k' := by
  cases r with
  | ok a S => exact h a S
  | _ => rfl
section
variable {a b c m o : EM} {tA tB tt : TM} {A : AM} {im : IM} {f : F2} {f1 : F1} {fa : FA} {l h : OM}
theorem be_var (i : Nat) : BE (varM i) := fun p env S => by
  unfold varM
  rw [List.getElem?_map]
  cases env[i]? with
  | none => rfl
  | some s => cases s <;> rfl
theorem be_varL (i : Nat) : BE (varL i) := fun p env S => by
  unfold varL
  rw [List.getElem?_map]
  cases env[i]? with
  | none => rfl
  | some s => cases s <;> rfl
theorem be_c (x : Vl) : BE (cM x) := fun _ _ _ => rfl
theorem be_nil : BE nilA := fun _ _ _ => rfl
theorem be_yes : BE yesT := fun _ _ _ => rfl
theorem be_oN : BE oN := fun _ _ _ => rfl
theorem be_oS (ha : BE m) : BE (oS m) := fun p env S => by simp only [oS, ha p env]
theorem be_cons (ha : BE m) (hb : BE A) : BE (consA m A) := fun p env S => by simp only [consA, ha p env, hb p env]
theorem be_bin (ha : BE a) (hb : BE b) : BE (bin2 f a b) := fun p env S => by simp only [bin2, ha p env, hb p env]
theorem be_un (ha : BE a) : BE (un1 f1 a) := fun p env S => by simp only [un1, ha p env]
theorem be_tv (ha : BE a) : BE (tv a) := fun p env S => by simp only [tv, ha p env]
theorem be_tru {ft : FT} (ha : BE a) : BE (tru ft a) := fun p env S => by simp only [tru, ha p env]
theorem be_andT (ha : BE tA) (hb : BE tB) : BE (andT tA tB) := fun p env S => by simp only [andT, ha p env, hb p env]
theorem be_orT (ha : BE tA) (hb : BE tB) : BE (orT tA tB) := fun p env S => by simp only [orT, ha p env, hb p env]
theorem be_notT (ha : BE tA) : BE (notT tA) := fun p env S => by simp only [notT, ha p env]
theorem be_andV (ha : BE a) (hb : BE b) : BE (andV a b) := fun p env S => by simp only [andV, ha p env, hb p env]
theorem be_orV (ha : BE a) (hb : BE b) : BE (orV a b) := fun p env S => by simp only [orV, ha p env, hb p env]
theorem be_notV (ha : BE a) : BE (notV a) := fun p env S => by simp only [notV, ha p env]
theorem be_if (hc : BE tt) (ha : BE a) (hb : BE b) : BE (ifM tt a b) := fun p env S => by simp only [ifM, hc p env, ha p env, hb p env]
theorem be_ch {g : F2} (ha : BE a) (hb : BE b) (hc : BE c) : BE (ch3 f g a b c) := fun p env S => by simp only [ch3, hc p env, ha p env, hb p env]
theorem be_tup (ha : BE A) : BE (tupM A) := fun p env S => by simp only [tupM, ha p env]
theorem be_lst (ha : BE A) : BE (lstM A) := fun p env S => by simp only [lstM, ha p env]
theorem be_cB (ha : BE A) : BE (cB fa A) := fun p env S => by simp only [cB, ha p env]
theorem be_call {g : List Vl → Sto → Res Vl} (ha : BE A) : BE (callM g A) := fun p env S => by simp only [callM, ha p env]
theorem be_callD {g : List Vl → Sto → Res Vl} {ds : List Vl} (ha : BE A) : BE (callD g ds A) := fun p env S => by simp only [callD, ha p env]
theorem be_make {g : Addr → List Vl → Sto → Res Vl} (ha : BE A) : BE (makeM g A) := fun p env S => by simp only [makeM, ha p env]
theorem be_sl (ha : BE a) (hl : BE l) (hh : BE h) : BE (slM a l h) := fun p env S => by simp only [slM, ha p env, hl p env, hh p env]
theorem be_slN (ha : BE a) (hl : BE l) (hh : BE h) : BE (slN a l h) := fun p env S => by simp only [slN, ha p env, hl p env, hh p env]
theorem be_isi {ts : List Ty} (ha : BE a) : BE (isiM ts a) := fun p env S => by simp only [isiM, ha p env]
theorem be_iso {ds cs : List Nat} (ha : BE a) : BE (isoM ds cs a) := fun p env S => by simp only [isoM, ha p env]
theorem be_fld {k : Nat} {x : Str} (ha : BE a) : BE (fldM k x a) := fun p env S => by simp only [fldM, ha p env]
theorem be_meth {k : Nat} {x : Str} {g : List Vl → Sto → Res Vl} (ha : BE a) (hb : BE A) : BE (methM k x g a A) := fun p env S => by simp only [methM, ha p env, hb p env]
theorem be_seqI (ha : BE a) : BE (seqI a) := fun p env S => by simp only [seqI, ha p env]
theorem be_strI (ha : BE a) : BE (strI a) := fun p env S => by simp only [strI, ha p env]
theorem be_rngI (ha : BE A) : BE (rngI A) := fun p env S => by simp only [rngI, ha p env]
theorem be_enI (ha : BE A) : BE (enI A) := fun p env S => by simp only [enI, ha p env]
theorem be_zpI (ha : BE A) : BE (zpI A) := fun p env S => by simp only [zpI, ha p env]
theorem wipe_rn (p : Addr) : ∀ (vs : List Nat) (env : List Sv), wipeE vs (env.map (rn p)) = (wipeE vs env).map (List.map (rn p))
  | [], _ => rfl
  | v :: vs, env => by
    unfold wipeE
    rw [wipe_rn p vs env]
    cases wipeE vs env with
    | none => rfl
    | some e1 =>
      dsimp only [Option.map_some]
      rw [List.getElem?_map]
      have e : (e1.map (rn p)).set v .un = (e1.set v .un).map (rn p) := by rw [List.map_set] <;> rfl
      cases hv : e1[v]? with
      | none => exact congrArg some e
      | some s => cases s <;> first | rfl | exact congrArg some e
theorem comp_rn {g : TF} (hf : BF g) (ht : BE tt) (he : BE m) (p : Addr) (env : List Sv) : ∀ (xs : List Vl) (S : Sto), compL g tt m (env.map (rn p)) xs S = compL g tt m env xs S
  | [], _ => rfl
  | x :: xs, S => by
    unfold compL
    rw [hf p x env]
    cases g x env with
    | none => rfl
    | some e1 =>
      show ((tt (e1.map (rn p)) S).nox.bind fun k S1 => if k then (m (e1.map (rn p)) S1).nox.bind fun y S2 => (compL g tt m (env.map (rn p)) xs S2).bind fun ys S3 => .ok (y :: ys) S3 else compL g tt m (env.map (rn p)) xs S1) = _
      simp only [ht p e1, he p e1, comp_rn hf ht he p env xs]
theorem be_comp {vs : List Nat} {g : TF} (hi : BE im) (hf : BF g) (ht : BE tt) (he : BE m) : BE (compM im vs g tt m) := fun p env S => by
  unfold compM
  rw [hi p env]
  refine bind_congr fun xs S1 => ?_
  rw [wipe_rn]
  cases wipeE vs env with
  | none => rfl
  | some e1 =>
    dsimp only [Option.map_some]
    rw [comp_rn hf ht he]
theorem bf_n (i : Nat) : BF (tfN i) := fun p x env => by
  unfold tfN
  show some ((env.map (rn p)).set i (.v x)) = some ((env.set i (.v x)).map (rn p))
  rw [List.map_set] <;> rfl
theorem bfs_nil : BFs tfNil := fun p x env => by cases x <;> rfl
theorem bfs_cons {g : TF} {gs : TFs} (h1 : BF g) (h2 : BFs gs) : BFs (tfCons g gs) := fun p x env => by
  cases x with
  | nil => rfl
  | cons y ys =>
    unfold tfCons
    dsimp only
    rw [h1 p y env]
    cases g y env with
    | none => rfl
    | some e1 => exact h2 p ys e1
theorem bf_t {gs : TFs} (h : BFs gs) : BF (tfT gs) := fun p x env => by
  cases x <;> first | exact h p _ env | rfl
variable {s1 s2 : SM} {i : Nat}
theorem bs_nil : BS nilS := fun _ _ _ => rfl
theorem bs_bad : BS (fun _ _ => .bad) := fun _ _ _ => rfl
theorem bs_seq (h1 : BS s1) (h2 : BS s2) : BS (seqS s1 s2) := fun p env S => by
  unfold seqS
  rw [h1 p env, bind_mp, mp_bind]
  refine bind_congr fun fl S1 => ?_
  cases fl <;> first | exact h2 p _ S1 | rfl
theorem bs_expr (ha : BE m) : BS (exprS m) := fun p env S => by
  unfold exprS
  rw [ha p env, mp_bind]
  exact bind_congr fun _ _ => rfl
theorem bs_set (ha : BE m) : BS (setS i m) := fun p env S => by
  unfold setS
  rw [ha p env, mp_bind]
  refine bind_congr fun x S1 => ?_
  show Res.ok (Fl.nx ((env.map (rn p)).set i (.v x))) S1 = .ok (.nx ((env.set i (.v x)).map (rn p))) S1
  rw [List.map_set] <;> rfl
theorem bs_own (ha : BE m) : BS (ownS i m) := fun p env S => by
  unfold ownS
  rw [ha p env, mp_bind]
  refine bind_congr fun x S1 => ?_
  show Res.ok (Fl.nx ((env.map (rn p)).set i (.ow x))) S1 = .ok (.nx ((env.set i (.ow x)).map (rn p))) S1
  rw [List.map_set] <;> rfl
theorem bs_if (hc : BE tt) (h1 : BS s1) (h2 : BS s2) : BS (ifS tt s1 s2) := fun p env S => by
  unfold ifS
  rw [hc p env, mp_bind]
  refine bind_congr fun k S1 => ?_
  cases k
  · exact h2 p env S1
  · exact h1 p env S1
theorem bs_sf {k : Nat} {x : Str} (ha : BE m) : BS (sfS k x i m) := fun p env S => by
  unfold sfS
  rw [ha p env, mp_bind]
  refine bind_congr fun y S1 => ?_
  rw [List.getElem?_map]
  cases env[i]? with
  | none => rfl
  | some s =>
    cases s with
    | sf q z =>
      cases z with
      | ins d ns xs =>
        show (if d = k ∧ ns.length < 1000 then Res.ok (Fl.nx ((env.map (rn p)).set i (.sf p (.ins k (fPut ns xs x y).1 (fPut ns xs x y).2)))) S1 else .bad) = (if d = k ∧ ns.length < 1000 then Res.ok (Fl.nx (env.set i (.sf q (.ins k (fPut ns xs x y).1 (fPut ns xs x y).2)))) S1 else .bad).mp (rnF p)
        split
        · show Res.ok (Fl.nx ((env.map (rn p)).set i _)) S1 = .ok (.nx ((env.set i _).map (rn p))) S1
          rw [List.map_set] <;> rfl
        · rfl
      | _ => rfl
    | _ => rfl
theorem rn_start (N k : Nat) (a p : Addr) (xs : List Vl) : (startI N k a xs).map (rn p) = startI N k p xs := by
  unfold startI
  simp [rn, List.map_append, List.map_map, Function.comp_def, List.map_replicate]
theorem blind_of {N k : Nat} (h : BS s1) : Blind (runI N k s1) := fun a b xs S => by
  unfold runI
  have ha := h a (startI N k a xs) S
  have hb := h b (startI N k a xs) S
  rw [rn_start] at ha hb
  rw [hb, bind_mp]
  revert ha
  generalize s1 (startI N k a xs) S = r
  intro ha
  cases r with
  | bad => rfl
  | exc c ns ys S' => rfl
  | ok fl S' =>
    cases fl with
    | nx env =>
      have e : env = env.map (rn a) := by
        have := congrArg (fun z : Res Fl => match z with | .ok (.nx e) _ => e | _ => []) ha
        exact this
      show (match selfOf a env with | some x => Res.ok x S' | none => .bad) = (match selfOf b (env.map (rn b)) with | some x => Res.ok x S' | none => .bad)
      have z : selfOf a env = selfOf b (env.map (rn b)) := by
        rw [e]
        cases env with
        | nil => rfl
        | cons s t =>
          cases s with
          | sf q x =>
            show (if a = a then some x else none) = (if b = b then some x else none)
            simp
          | _ => rfl
      rw [z]
    | _ => rfl
end
end Dm

set_option Elab.async false
set_option linter.all false
set_option maxRecDepth 100000
set_option autoImplicit false
set_option maxHeartbeats 1000000
/-! DmL: own exceptions raised and caught; += ; a, b = x, y with cells; {} ; lists handed out to be changed. -/
namespace Dm
open PySem PySem.Spec L2
/-! ### what the text says of an own exception class -/
def oexB (K : PySem.W.Frag) (C : Addr) : Bool := match K.lookup C with
  | some ⟨.type "type", _, .cls cd, sl⟩ => (match cd.mro, sl.toList with
    | .ref C' :: bm, [_, _, _, _, some (.builtin n), _] => C' == C && n == "ValueError.__new__" && !cd.hasDel && cd.hasDict && PySem.HandSPX.refsVE bm
    | _, _ => false)
  | _ => false
theorem oexB_ok {K : PySem.W.Frag} {C : Addr} (q : oexB K C = true) : ∃ nm q N bs bm sn sub ab col dd k0 k1 k2 k3 k5, K.lookup C = some (excClassObj nm q C N bs bm true sn sub ab col dd k0 k1 k2 k3 k5 "ValueError.__new__") ∧ PySem.HandSPX.refsVE bm = true := by
  unfold oexB at q
  split at q
  · rename_i dd cd sl ho
    split at q
    · rename_i C' bm k0 k1 k2 k3 n k5 hm hs
      simp only [Bool.and_eq_true, beq_iff_eq, Bool.not_eq_true'] at q
      obtain ⟨⟨⟨⟨rfl, rfl⟩, hdel⟩, hdi⟩, ht⟩ := q
      obtain ⟨nm, bs, mro, ns, qn, hd, sn, sub, ab, col, del⟩ := cd
      dsimp only at hm hdel hdi
      subst hm hdel hdi
      have hsl : sl = #[k0, k1, k2, k3, some (.builtin "ValueError.__new__"), k5] := by
        obtain ⟨l⟩ := sl
        simp only at hs
        rw [hs]
      subst hsl
      exact ⟨nm, qn, ns, bs, bm, sn, sub, ab, col, dd, k0, k1, k2, k3, k5, ho, ht⟩
    · cases q
  · cases q
structure Oe (K : PySem.W.Frag) (C fI : Addr) : Prop where
  oc : OexC K C
  iC : PySem.W.findIn K (.ref C) "__init__" = some (some (.ref fI))
  tI : PySem.W.typeIn K (.ref fI) = some (.type "function")
  xf : XfC K C
/-- an own exception class with its own __init__ -/
def fx_oex (C : Str) : Fx := fun K => oexB K (He.ga K C) && (He.eqO (PySem.W.findIn K (.ref (He.ga K C)) "__setattr__") (some (some (.builtin "object.__setattr__"))) && (decide (PySem.W.subIn K (.ref (He.ga K C)) (.type "BaseException") = some true) &&
  (decide (PySem.W.typeIn K (.ref (He.ga K C)) = some (.type "type")) && (PySem.W.keepIn K (.ref (He.ga K C)) && (He.eqO (PySem.W.findIn K (.ref (He.ga K C)) "__init__") (some (some (.ref (He.fAd K (C, some "__init__"))))) &&
    (decide (PySem.W.typeIn K (.ref (He.fAd K (C, some "__init__"))) = some (.type "function")) && xfB K (He.ga K C)))))))
theorem fx_oex_ok {C : Str} {K : PySem.W.Frag} (h : fx_oex C K = true) : Oe K (He.ga K C) (He.fAd K (C, some "__init__")) := by
  obtain ⟨h1, h⟩ := He.ba h
  obtain ⟨h2, h⟩ := He.ba h
  obtain ⟨h3, h⟩ := He.ba h
  obtain ⟨h4, h⟩ := He.ba h
  obtain ⟨h5, h⟩ := He.ba h
  obtain ⟨h6, h⟩ := He.ba h
  obtain ⟨h7, h8⟩ := He.ba h
  exact ⟨⟨oexB_ok h1, He.eqO_ok h2, of_decide_eq_true h3, of_decide_eq_true h4, h5⟩, He.eqO_ok h6, of_decide_eq_true h7, xfB_ok h8⟩
/-- a field that the class has not -/
def fx_no (C f : Str) : Fx := fun K => He.eqO (PySem.W.findIn K (.ref (He.ga K C)) f) (some none)
theorem fx_no_ok {C f : Str} {K : PySem.W.Frag} (h : fx_no C f K = true) : PySem.W.findIn K (.ref (He.ga K C)) f = some none := He.eqO_ok h
/-- D.__init__, D the base class of the package's exceptions -/
def aeiB (K : PySem.W.Frag) (D : Addr) : Bool := He.eqO (PySem.W.specialIn K (.ref D) "__getattribute__") (some (some (.builtin "type.__getattribute__"))) && (PySem.W.readsIn K D (.type "type") && (match PySem.W.findCls K (.ref D) (.type "type") "__init__" with
  | some (.val (.builtin n)) => n == "ValueError.__init__"
  | _ => false))
def fx_aei (D : Str) : Fx := fun K => aeiB K (He.ga K D)
structure Aei (K : PySem.W.Frag) (D : Addr) : Prop where
  sp : PySem.W.specialIn K (.ref D) "__getattribute__" = some (some (.builtin "type.__getattribute__"))
  rd : PySem.W.readsIn K D (.type "type") = true
  fi : PySem.W.findCls K (.ref D) (.type "type") "__init__" = some (.val (.builtin "ValueError.__init__"))
theorem aeiB_ok {K : PySem.W.Frag} {D : Addr} (h : aeiB K D = true) : Aei K D := by
  obtain ⟨h1, h⟩ := He.ba h
  obtain ⟨h2, h3⟩ := He.ba h
  refine ⟨He.eqO_ok h1, h2, ?_⟩
  split at h3
  · rename_i n e
    rw [e, beq_iff_eq.mp h3]
  · cases h3
theorem fx_aei_ok {D : Str} {K : PySem.W.Frag} (h : fx_aei D K = true) : Aei K (He.ga K D) := aeiB_ok h
/-- except clauses: an error of the class a is caught by «except b» -/
def fx_exm (a b : Str) (k : Bool) : Fx := fun K => decide (PySem.W.exmOne K (.ref (He.ga K a)) (.ref (He.ga K b)) = some k)
theorem fx_exm_ok {a b : Str} {k : Bool} {K : PySem.W.Frag} (h : fx_exm a b k K = true) : PySem.W.exmOne K (.ref (He.ga K a)) (.ref (He.ga K b)) = some k := of_decide_eq_true h

section
variable {X : Cx} {e : Expr} {es : List Expr} {ta : TA} {p1 p2 pos : Pos}
theorem pe_aeinit {x : Str} {B : Addr} {pl : Sem Bool} (hg : Gl X x) (hm : X.mg x = some (.ref B)) (T0 : Aei X.K B) (ha : PA X (e :: es) ta) (hdb : (x == ("__debug__" : Str)) = false := by decide)
    (hc : eval (.Call (.Attribute (.Name x p1) "__init__" p2) (e :: es) [] pos) X.env = (do
      let ov ← eval (.Name x p1) X.env
      standAt p2.atName
      let (f, first) ← holding [ov] (getMethod ov "__init__" pl)
      callWith pos f first (backTo pos (starEach (e :: es) X.env)) (backToKw pos (keywordEach [] X.env))) := by rfl)
    (he : starEach (e :: es) X.env = (false, eval e X.env) :: starEach es X.env := by rfl) (hpl : (backTo pos (starEach es X.env)).any (·.1) = false := by rfl) :
    PE X (.Call (.Attribute (.Name x p1) "__init__" p2) (e :: es) [] pos) (tVeI X.K ta) := by
  refine ⟨fun pins s σ H Q I h => ?_⟩
  refine PySem.W.methodCall_KW (ld_glob I hg hm ?_ hdb) hc
  refine PySem.W.method_cls I.kIn T0.sp (PySem.W.cls_value I.kIn T0.rd T0.fi (by decide +kernel) ?_)
  show wpAny _ _ (callWith pos (Value.builtin "ValueError.__init__") [] (backTo pos (starEach (e :: es) X.env)) []) _ _ _
  refine PyProof.Rows.callWith_method1 (thn (ha.run pos pins _ σ H _ (I.tok _) h) fun us s1 ⟨vs, H1, I1, r1, a, C, ws, ev, hl, T, ea, q⟩ => ?_) he hpl
  subst ev
  cases r1 with
  | @cons _ u0 _ ur ra rw' =>
    obtain rfl : u0 = Value.ref a := ra
    have hlen : ur.length ≤ sizeLine := by
      rw [← Paired.length rw', sizeLine_eq]
      omega
    exact oinit_ok T I1 ea hlen fun s' J => ⟨.non, H1, J, rfl, q⟩
end
/-! ### the __init__ of an exception with one field, or two -/
def spX1 (C : Addr) (f : Str) : Sp := fun vs H Q _ => ∃ a y, vs = [.ref a, y] ∧ H a = some (exo a C none) ∧ ∀ dx, H dx = none → dx ≠ a → Q .non (upd (upd H dx (exd dx [(f, y)])) a (exo a C (some dx)))
def spX2 (C : Addr) (f g : Str) : Sp := fun vs H Q _ => ∃ a y z, vs = [.ref a, y, z] ∧ H a = some (exo a C none) ∧
  ∀ dx, H dx = none → dx ≠ a → Q .non (upd (upd (upd H dx (exd dx [(f, y)])) a (exo a C (some dx))) dx (exd dx [(g, z), (f, y)]))
section
variable {P : Program} {w : World} {K : PySem.W.Frag} {mg : Str → Option Value} {base : Heap} {x qual : Str} {params : Arguments} {body : List Stmt} {scope : Scope} {f : Addr} {fd : FuncData} {k : Nat} {C : Addr} {msg : Str}
theorem exi1 {p fl : Str} (F : FunD K x qual params body scope [] [] f fd) (S : FnScope ["self", p] ["self", p] scope) (T : OexC K C) (hno : PySem.W.findIn K (.ref C) fl = some none)
    (h : ∀ (cdv : Value) (A : Around) (outer : List Env) (s : Shared) (H : Hp) (E : XK), Room k (A.deeper (PyProof.Rows.envOfC qual scope s.heap.objs.size f cdv)) → PSs (cxOf (L2.CX P w) P w K mg base ["self", p] qual scope f cdv A outer s H E) body
      (tSeq (tDrop (tVeI K (tCons (tVar 0) (tCons (tC (.str msg)) tNil)))) (tOst K fl (tVar 0) (tVar 1)))) : FnOk P w K mg base (L2.CX P w) (k + 1) f fd ["self", p] (spX1 C fl) :=
  F.ok S (fun vs H Q E ⟨a, y, e, _⟩ => by rw [e] <;> rfl) fun cdv A outer s H vs Q E hr ⟨a, y, e, ha, q⟩ => ⟨_, h cdv A outer s H E hr, by
    subst e
    exact ⟨.ref a, rfl, a, C, [.str msg], rfl, by simp, T, ha, y, rfl, .ref a, rfl, a, C, rfl, T, hno, .inl ⟨ha, q⟩⟩⟩
theorem exi2 {p p' fl gl : Str} (F : FunD K x qual params body scope [] [] f fd) (S : FnScope ["self", p, p'] ["self", p, p'] scope) (T : OexC K C) (hno : PySem.W.findIn K (.ref C) fl = some none) (hno' : PySem.W.findIn K (.ref C) gl = some none)
    (h : ∀ (cdv : Value) (A : Around) (outer : List Env) (s : Shared) (H : Hp) (E : XK), Room k (A.deeper (PyProof.Rows.envOfC qual scope s.heap.objs.size f cdv)) → PSs (cxOf (L2.CX P w) P w K mg base ["self", p, p'] qual scope f cdv A outer s H E) body
      (tSeq (tDrop (tVeI K (tCons (tVar 0) (tCons (tC (.str msg)) tNil)))) (tSeq (tOst K fl (tVar 0) (tVar 1)) (tOst K gl (tVar 0) (tVar 2))))) : FnOk P w K mg base (L2.CX P w) (k + 1) f fd ["self", p, p'] (spX2 C fl gl) :=
  F.ok S (fun vs H Q E ⟨a, y, z, e, _⟩ => by rw [e] <;> rfl) fun cdv A outer s H vs Q E hr ⟨a, y, z, e, ha, q⟩ => ⟨_, h cdv A outer s H E hr, by
    subst e
    refine ⟨.ref a, rfl, a, C, [.str msg], rfl, by simp, T, ha, y, rfl, .ref a, rfl, a, C, rfl, T, hno, .inl ⟨ha, fun dx h1 h2 => ?_⟩⟩
    exact ⟨z, rfl, .ref a, rfl, a, C, rfl, T, hno', .inr ⟨dx, [(fl, y)], upd_same, by rw [upd_ne h2, upd_same], by simp, q dx h1 h2⟩⟩⟩
end
/-! ### raise -/
def raiS (c : Nat) (ns : List Str) (mA : AM) : SM := fun env S => (mA env S).bind fun xs S1 => .exc c ns xs.reverse S1
section
variable {X : Cx} {cl : Cl} {E : XK} {c k : Nat} {fI : Addr} {fd : FuncData} {ps : List Str} {x : Str} {e : Expr} {es : List Expr} {mA : AM} {p pos pos' : Pos}
theorem heap_x {H1 : Hp} {a dx : Addr} {A B C D : HO} (ha : H1 a = none) : upd (del (upd (upd (upd H1 a A) dx B) a C) a) dx D = upd H1 dx D := by
  funext b
  by_cases h : b = dx
  · rw [h, upd_same, upd_same]
  · rw [upd_ne h, upd_ne h]
    by_cases h2 : b = a
    · rw [h2, del_same, ha]
    · rw [del_ne h2, upd_ne h2, upd_ne h, upd_ne h2]
theorem heap_x2 {H1 : Hp} {a dx : Addr} {A B C D F : HO} (ha : H1 a = none) : upd (del (upd (upd (upd (upd H1 a A) dx B) a C) dx F) a) dx D = upd H1 dx D := by
  funext b
  by_cases h : b = dx
  · rw [h, upd_same, upd_same]
  · rw [upd_ne h, upd_ne h]
    by_cases h2 : b = a
    · rw [h2, del_same, ha]
    · rw [del_ne h2, upd_ne h, upd_ne h2, upd_ne h, upd_ne h2]
theorem ds_raise1 {f : Str} (hc : X.calm = true) (tk : Takes X fun cls d _ H => E cls d H) (O : Oe X.K (cl c) fI) (F1 : FnOk X.prog X.w X.K X.mg X.base (L2.CX X.prog X.w) k fI fd ps (spX1 (cl c) f)) (hr : Room (k + 1) X.A) (hb : Binds X.K fd ps []) (hg : Gl X x) (hm : X.mg x = some (.ref (cl c)))
    (ha : PA X (e :: es) (tDA X.K cl E mA)) (hn : LenA mA 1) (hdb : (x == ("__debug__" : Str)) = false := by decide) (he : starEach (e :: es) X.env = (false, eval e X.env) :: starEach es X.env := by rfl) (hpl : (backTo pos (starEach es X.env)).any (·.1) = false := by rfl) :
    PS X (.Raise (some (.Call (.Name x p) (e :: es) [] pos)) none pos') (tS X.K cl E (raiS c [f] mA)) :=
  (ps_raise hc tk (pmk_oex O.oc O.iC O.tI F1 hr hb .nil (passes_call takes_none5 fun _ _ _ _ h => h) hg hm ha hdb he hpl)).imp fun D σ H ⟨W, ω, μ, S, env, rl, q⟩ => by
    refine ⟨W, ω, μ, S, env, rl, q.ofG.mono fun xs S1 μ1 H1 ee s1 e1 q1 vs rs => ?_⟩
    have hl := hn _ _ _ _ ee
    obtain ⟨x0, rfl⟩ : ∃ x0, xs = [x0] := by
      match xs, hl with
      | [x0], _ => exact ⟨x0, rfl⟩
    cases rs with
    | @cons _ _ y _ r0 rn =>
      cases rn
      refine ⟨by simp, fun a ha1 => ⟨a, y, rfl, upd_same, fun dx h1 h2 => ⟨rfl, dx, [(f, y)], upd_same, by rw [upd_ne h2, upd_same], by rw [upd_ne h2] at h1; exact h1, ?_⟩⟩⟩
      have hdx : H1 dx = none := by rw [upd_ne h2] at h1; exact h1
      rw [heap_x ha1]
      exact q1 μ1 _ dx ((s1.fresh hdx).weak wo_left) ((Ext.fresh hdx).s.drop fun _ z => nomatch z) ⟨_, upd_same, rfl, .cons ((r0.mono (Ext.fresh hdx).kp).mono (Kp.weak wo_left)) .nil⟩
theorem ds_raise2 {f g : Str} (hc : X.calm = true) (tk : Takes X fun cls d _ H => E cls d H) (O : Oe X.K (cl c) fI) (F1 : FnOk X.prog X.w X.K X.mg X.base (L2.CX X.prog X.w) k fI fd ps (spX2 (cl c) f g)) (hr : Room (k + 1) X.A) (hb : Binds X.K fd ps []) (hg : Gl X x) (hm : X.mg x = some (.ref (cl c)))
    (ha : PA X (e :: es) (tDA X.K cl E mA)) (hn : LenA mA 2) (hdb : (x == ("__debug__" : Str)) = false := by decide) (he : starEach (e :: es) X.env = (false, eval e X.env) :: starEach es X.env := by rfl) (hpl : (backTo pos (starEach es X.env)).any (·.1) = false := by rfl) :
    PS X (.Raise (some (.Call (.Name x p) (e :: es) [] pos)) none pos') (tS X.K cl E (raiS c [g, f] mA)) :=
  (ps_raise hc tk (pmk_oex O.oc O.iC O.tI F1 hr hb .nil (passes_call takes_none5 fun _ _ _ _ h => h) hg hm ha hdb he hpl)).imp fun D σ H ⟨W, ω, μ, S, env, rl, q⟩ => by
    refine ⟨W, ω, μ, S, env, rl, q.ofG.mono fun xs S1 μ1 H1 ee s1 e1 q1 vs rs => ?_⟩
    have hl := hn _ _ _ _ ee
    obtain ⟨x0, x1, rfl⟩ : ∃ x0 x1, xs = [x0, x1] := by
      match xs, hl with
      | [x0, x1], _ => exact ⟨x0, x1, rfl⟩
    cases rs with
    | @cons _ _ y _ r0 rn =>
      cases rn with
      | @cons _ _ z _ r1 rn =>
        cases rn
        refine ⟨by simp, fun a ha1 => ⟨a, y, z, rfl, upd_same, fun dx h1 h2 => ⟨rfl, dx, [(g, z), (f, y)], by rw [upd_ne (Ne.symm h2), upd_same], upd_same, by rw [upd_ne h2] at h1; exact h1, ?_⟩⟩⟩
        have hdx : H1 dx = none := by rw [upd_ne h2] at h1; exact h1
        rw [heap_x2 ha1]
        have k := fun {x : Vl} {v : V} (r : Rep X.K cl (Bn (Wo W ω) μ1) μ1 H1 x v) => (r.mono (Ext.fresh (o := HO.xd [(g, z), (f, y)]) hdx).kp).mono (Kp.weak (wo_left (W := W) (ω := ω)))
        exact q1 μ1 _ dx ((s1.fresh hdx).weak wo_left) ((Ext.fresh hdx).s.drop fun _ z => nomatch z) ⟨_, upd_same, rfl, .cons (k r1) (.cons (k r0) .nil)⟩
end
/-! ### x += e of integers -/
def addIF : F2 := fun _ x y => match x, y with
  | .int a, .int b => some (.int (a + b))
  | _, _ => none
section
variable {X : Cx} {cl : Cl} {E : XK} {st : Stmt} {m : EM} {i : Nat}
theorem ds_aug {te : TE} (h : PS X st (tAug i te (ipI fun a b => a + b))) (hi : ∀ σ H Q, tD X.K cl E m σ H Q → te σ H Q) : PS X st (tS X.K cl E (setS i (bin2 addIF (varM i) m))) := h.imp fun D σ H ⟨W, ω, μ, S, env, rl, q⟩ => by
  unfold setS bin2 varM at q
  cases he : env[i]? with
  | none => rw [he] at q; exact q.elim
  | some z =>
    rw [he] at q
    cases z with
    | un => exact q.elim
    | ow x => exact q.elim
    | sf a x => exact q.elim
    | v x =>
      obtain ⟨o, s, h1, h2, _, v, h4, h5⟩ := rl.slot he
      subst h4
      refine ⟨v, h2, hi _ _ _ ⟨W, ω, μ, S, env, rl, ?_⟩⟩
      have q' : SatF X.K cl W ω μ H (((m env S).bind fun y S2 => (match addIF S2 x y with | some v => Res.ok v S2 | none => .bad)).bind fun x S1 => .ok (.nx (env.set i (.v x))) S1) D E := q
      refine SatG.mono (SatG.bind (SatF.ofG q')) fun y S2 μ2 H2 _ s2 e2 q2 u ru => ?_
      cases hz : addIF S2 x y with
      | none => rw [hz] at q2; exact q2.elim
      | some z =>
        rw [hz] at q2
        cases x with
        | int a =>
          cases y with
          | int b =>
            cases hz
            cases h5
            cases ru
            exact ⟨a, b, rfl, rfl, q2 μ2 H2 s2 Ext.refl _ _ _ _ ((rl.ext e2 s2).set (.int (a + b)) i) (ExtS.refl.drop fun _ z => mem_set_none z)⟩
          | _ => cases hz
        | _ => cases hz
end
end Dm

set_option Elab.async false
set_option linter.all false
set_option maxRecDepth 100000
set_option autoImplicit false
set_option maxHeartbeats 1000000
/-! DmM: a, b = x, y with cells; {} ; lists handed out to be changed; try. -/
namespace Dm
open PySem PySem.Spec L2
/-! ### a, b = x, y through a tuple -/
section
variable {X : Cx} {cl : Cl} {E : XK} {st : Stmt} {m1 m2 : EM} {i j : Nat}
theorem SatF.fr {K : PySem.W.Frag} {W : Addr → Prop} {ω : List (Option Addr)} {μ : List Addr} {H : Hp} {r : Res Fl} {D : Ends} (h : SatF K cl W ω μ H r D E) : SatF K cl W ω μ H r { D with nx := fun σ' H1 => ∀ p xs, H1 p = none → D.nx σ' (upd H1 p (.tup xs)) } E := by
  cases r with
  | bad => exact h
  | exc c ns xs S' => exact h
  | ok f S' =>
    cases f with
    | nx env => exact fun ω' μ' σ' H' rl e p xs hp => h ω' μ' σ' _ (rl.fresh hp) (e.trans (Ext.fresh hp).s)
    | bk env => exact h
    | ct env => exact h
    | rt x => exact h
/-- the stores behind it -/
abbrev tParT (K : PySem.W.Frag) (i j : Nat) (ta : TA) : TS := tAsg (tTup ta) (gTup K 2 (gCons (gName i) (gCons (gName j) gNil)))
theorem tD_mono {K : PySem.W.Frag} {m : EM} {σ : St} {H : Hp} {Q Q' : VK} (h : tD K cl E m σ H Q) (k : ∀ v H, Q v H → Q' v H) : tD K cl E m σ H Q' := by
  obtain ⟨W, ω, μ, S, env, rl, q⟩ := h
  exact ⟨W, ω, μ, S, env, rl, q.mono fun x S' μ' H' _ _ _ q v rv => k _ _ (q v rv)⟩
theorem tN_mono {K : PySem.W.Frag} {m : EM} {σ : St} {H : Hp} {Q Q' : VK} (h : tN K cl E m σ H Q) (k : ∀ v H, Q v H → Q' v H) : tN K cl E m σ H Q' := by
  obtain ⟨W, ω, μ, S, env, rl, q⟩ := h
  exact ⟨W, ω, μ, S, env, rl, q.mono fun x S' μ' H' _ _ _ q a ha sb at_ => k _ _ (q a ha sb at_)⟩
def Mono (t : TE) : Prop := ∀ (σ : St) (H : Hp) (Q Q' : VK), t σ H Q → (∀ v H, Q v H → Q' v H) → t σ H Q'
theorem mono_N {K : PySem.W.Frag} {m : EM} : Mono (tN K cl E m) := fun _ _ _ _ h k => tN_mono h k
theorem mono_D {K : PySem.W.Frag} {m : EM} : Mono (tD K cl E m) := fun _ _ _ _ h k => tD_mono h k
theorem par_tup {K : PySem.W.Frag} {t1 t2 : TE} (h1 : Mono t1) (h2 : Mono t2) {D : Ends} {σ : St} {H : Hp}
    (h : tPar i j (tCons t1 (tCons t2 tNil)) { D with nx := fun σ' H1 => ∀ p xs, H1 p = none → D.nx σ' (upd H1 p (.tup xs)) } σ H) : tParT K i j (tCons t1 (tCons t2 tNil)) D σ H :=
  h1 _ _ _ _ h fun v H1 q => h2 _ _ _ _ q fun w H2 ⟨v', w', e, q⟩ => by
    cases e
    exact ⟨by show 2 ≤ sizeLine; rw [sizeLine_eq]; omega, fun p hp => ⟨p, [v, w], rfl, .of upd_same, rfl, v, [w], rfl, w, [], rfl, rfl, q p _ hp⟩⟩
theorem tS_fr {K : PySem.W.Frag} {b : SM} {D : Ends} {σ : St} {H : Hp} (h : tS K cl E b D σ H) : tS K cl E b { D with nx := fun σ' H1 => ∀ p xs, H1 p = none → D.nx σ' (upd H1 p (.tup xs)) } σ H := by
  obtain ⟨W, ω, μ, S, env, rl, q⟩ := h
  exact ⟨W, ω, μ, S, env, rl, q.fr⟩
/-- from a statement's reading by ds_par.. to that of the tuple's -/
theorem PS.ofImp {b : SM} {t : TS} (h : PS X st t) (k : ∀ D σ H, tS X.K cl E b D σ H → t D σ H) : PS X st (tS X.K cl E b) := h.imp k
theorem t_parOO {K : PySem.W.Frag} {D : Ends} {σ : St} {H : Hp} (h : tS K cl E (parOO i j m1 m2) D σ H) : tPar i j (tCons (tN K cl E m1) (tCons (tN K cl E m2) tNil)) D σ H := by
  obtain ⟨W, ω, μ, S, env, rl, q⟩ := h
  refine ⟨W, ω, μ, S, env, rl, q.back.mono fun x S1 μ1 H1 _ s1 e1 q1 a ha sa ata => ⟨Wa W a, ω, μ1, S1, env, rl.banNew e1 ha sa, ?_⟩⟩
  revert q1
  generalize m2 env S1 = r
  intro q1
  cases r with
  | bad => exact q1.elim
  | exc c ns ys S2 =>
    intro μ2 H2 d s2 e2 x
    obtain ⟨fs, x1, x2, x3⟩ := x
    have sub : ∀ b, W b → Wo (Wa W a) ω b := fun b z => .inl (.inl z)
    exact q1 μ2 H2 d (s2.weak sub) ((e1.s.trans e2.s).drop fun _ z => nomatch z) ⟨fs, x1, x2, x3.mono (Kp.weak sub)⟩
  | ok y S2 =>
    intro μ2 H2 s2 e2 b hb sb atb
    dsimp only [Res.bind] at q1
    by_cases hl : i < env.length ∧ j < env.length
    · rw [if_pos hl] at q1
      have r1 := rl.setOwn e1 ha sa ata i (by rw [rl.l2, ← rl.l1]; exact hl.1)
      have sub : ∀ z, Wa (Wo W (ω.set i (some a))) b z → Wa (Wo (Wa W a) ω) b z := fun z k => k.elim (fun k => .inl (k.elim (fun k => .inl (.inl k)) fun k => (List.mem_or_eq_of_mem_set k).elim .inr fun k => .inl (.inr (Option.some.inj k)))) .inr
      have r2 := r1.setOwn e2 hb (sb.weak sub) (atb.mono (Kp.weak sub) fun _ q => q) j (by rw [List.length_set, rl.l2, ← rl.l1]; exact hl.2)
      exact ⟨.ref a, .ref b, rfl, q1 _ μ2 _ H2 r2 ((ExtS.ownNew e1 ha).trans (ExtS.ownNew e2 hb))⟩
    · rw [if_neg hl] at q1
      exact q1.elim
theorem t_parOV {K : PySem.W.Frag} {D : Ends} {σ : St} {H : Hp} (h : tS K cl E (parOV2 i j m1 m2) D σ H) : tPar i j (tCons (tN K cl E m1) (tCons (tD K cl E m2) tNil)) D σ H := by
  obtain ⟨W, ω, μ, S, env, rl, q⟩ := h
  refine ⟨W, ω, μ, S, env, rl, q.back.mono fun x S1 μ1 H1 _ s1 e1 q1 a ha sa ata => ⟨Wa W a, ω, μ1, S1, env, rl.banNew e1 ha sa, ?_⟩⟩
  revert q1
  generalize m2 env S1 = r
  intro q1
  cases r with
  | bad => exact q1.elim
  | exc c ns ys S2 =>
    intro μ2 H2 d s2 e2 x
    obtain ⟨fs, x1, x2, x3⟩ := x
    have sub : ∀ b, W b → Wo (Wa W a) ω b := fun b z => .inl (.inl z)
    exact q1 μ2 H2 d (s2.weak sub) ((e1.s.trans e2.s).drop fun _ z => nomatch z) ⟨fs, x1, x2, x3.mono (Kp.weak sub)⟩
  | ok y S2 =>
    intro μ2 H2 s2 e2 v rv
    dsimp only [Res.bind] at q1
    by_cases hl : i < env.length
    · rw [if_pos hl] at q1
      have r1 := rl.setOwn e1 ha sa ata i (by rw [rl.l2, ← rl.l1]; exact hl)
      have sub : ∀ z, Wo W (ω.set i (some a)) z → Wo (Wa W a) ω z := fun z k => k.elim (fun k => .inl (.inl k)) fun k => (List.mem_or_eq_of_mem_set k).elim .inr fun k => .inl (.inr (Option.some.inj k))
      have r2 := (r1.ext e2 (s2.weak sub)).set (rv.mono (Kp.weak sub)) j
      exact ⟨.ref a, v, rfl, q1 _ μ2 _ H2 r2 ((ExtS.ownNew e1 ha).trans (e2.s.drop fun _ z => mem_set_none z))⟩
    · rw [if_neg hl] at q1
      exact q1.elim
theorem t_parVO {K : PySem.W.Frag} {D : Ends} {σ : St} {H : Hp} (h : tS K cl E (parVO i j m1 m2) D σ H) : tPar i j (tCons (tD K cl E m1) (tCons (tN K cl E m2) tNil)) D σ H := by
  obtain ⟨W, ω, μ, S, env, rl, q⟩ := h
  refine ⟨W, ω, μ, S, env, rl, q.ofG.mono fun x S1 μ1 H1 _ s1 e1 q1 v rv => ⟨W, ω, μ1, S1, env, rl.ext e1 s1, q1.back.mono fun y S2 μ2 H2 _ s2 e2 q2 a ha sb at_ => ?_⟩⟩
  have r1 := (rl.ext e1 s1).set rv i
  have hw : ∀ b, Wa (Wo W (ω.set i none)) a b → Wa (Wo W ω) a b := fun b z => z.elim (fun z => .inl (z.elim .inl fun z => .inr (mem_set_none z))) .inr
  have d0 : ExtS ω μ1 H1 (ω.set i none) μ1 H1 := ExtS.refl.drop fun _ z => mem_set_none z
  by_cases hl : j < env.length
  · have r2 := r1.setOwn e2 ha (sb.weak hw) (at_.mono (Kp.weak hw) fun _ q => q) j (by rw [List.length_set, rl.l2, ← rl.l1]; exact hl)
    exact ⟨v, .ref a, rfl, q2 _ μ2 _ H2 r2 (d0.trans (ExtS.ownNew e2 ha))⟩
  · have z1 : (env.set i (.v x)).set j (.ow y) = env.set i (.v x) := List.set_eq_of_length_le (by rw [List.length_set]; omega)
    have z2 : (σ.set i (some v)).set j (some (.ref a)) = σ.set i (some v) := List.set_eq_of_length_le (by rw [List.length_set, ← rl.l1]; omega)
    refine ⟨v, .ref a, rfl, ?_⟩
    rw [z2]
    have q3 : SatF K cl W ω μ1 H1 (.ok (.nx ((env.set i (.v x)).set j (.ow y))) S2) D E := q2
    rw [z1] at q3
    have s2' : Sim K cl (Wo W (ω.set i none)) μ2 S2 H2 := s2.weak fun b z => z.elim .inl fun z => .inr (mem_set_none z)
    exact q3 _ μ2 _ H2 (r1.ext e2 s2') (d0.trans e2.s)
theorem ds_parOOt (h : PS X st (tParT X.K i j (tCons (tN X.K cl E m1) (tCons (tN X.K cl E m2) tNil)))) : PS X st (tS X.K cl E (parOO i j m1 m2)) := h.imp fun D σ H z => par_tup mono_N mono_N (t_parOO (tS_fr z))
theorem ds_parOVt (h : PS X st (tParT X.K i j (tCons (tN X.K cl E m1) (tCons (tD X.K cl E m2) tNil)))) : PS X st (tS X.K cl E (parOV2 i j m1 m2)) := h.imp fun D σ H z => par_tup mono_N mono_D (t_parOV (tS_fr z))
theorem ds_parVOt (h : PS X st (tParT X.K i j (tCons (tD X.K cl E m1) (tCons (tN X.K cl E m2) tNil)))) : PS X st (tS X.K cl E (parVO i j m1 m2)) := h.imp fun D σ H z => par_tup mono_D mono_N (t_parVO (tS_fr z))
end
/-! ### {} -/
def dNew : EM := fun _ S => .ok (.dk [] []) S
theorem dn_dict {X : Cx} {cl : Cl} {E : XK} {pos : Pos} : PE X (.Dict [] [] pos) (tN X.K cl E dNew) := pe_dnewK.imp fun σ H Q ⟨W, ω, μ, S, env, rl, q⟩ p hp =>
  q μ _ (rl.sim.fresh hp) (Ext.fresh hp) p hp (rl.sim.freshBan hp fun z => rl.sim.tracked (.inl z) hp) (.dk upd_same rfl .nil)
/-! ### list * int -/
def mulLF : F2 := fun S x y => match look S x, y with
  | .lst xs, .int k => if -(2 ^ 63) ≤ k ∧ k < 2 ^ 63 ∧ xs.length * k.toNat ≤ 16777216 then some (.lst (List.replicate k.toNat xs).flatten) else none
  | _, _ => none
theorem s_mulL {X : Cx} {cl : Cl} : Op2N X cl rRep mulLF := by
  intro W ω μ S H x y z v u Q s rx ry h k
  have r1 := repR_of s rx
  unfold mulLF at h
  revert h r1
  generalize look S x = x'
  intro h r1
  cases x' with
  | lst xs =>
    cases y with
    | int n =>
      dsimp only at h
      split at h
      · rename_i hc
        obtain ⟨c1, c2, c3⟩ := hc
        cases h
        obtain ⟨a, vs, e1, e2, e3⟩ := repR_lst r1
        subst e1
        have : u = .int n := by
          rcases ry with ry | ⟨b, _, _, ry⟩
          · cases ry; rfl
          · cases ry
        subst this
        exact ⟨a, n, vs, rfl, rfl, e2, c1, c2, by rw [sizeLine_eq, ← e3.length]; exact c3, fun p hp => k p _ hp (.lst (reps_rep e3 _))⟩
      · cases h
    | _ => cases h
  | _ => cases h
/-! ### a new list handed out, to be changed by others -/
section
variable {X : Cx} {cl : Cl} {E : XK} {st : Stmt} {e : Expr} {m : EM} {i : Nat} {pos : Pos}
theorem Sim.pushNew {K : PySem.W.Frag} {V0 : Addr → Prop} {μ' : List Addr} {S' : Sto} {H' : Hp} {a : Addr} {x : Vl} (na : ¬ V0 a) (s : Sim K cl (Wa V0 a) μ' S' H') (h : At K cl (Bn (Wa V0 a) μ') μ' H' a x) : Sim K cl V0 (μ' ++ [a]) (S' ++ [x]) H' := by
  have nm : a ∉ μ' := fun z => s.dis a z (.inr rfl)
  have kp : Kp (Bn (Wa V0 a) μ') (Bn V0 (μ' ++ [a])) μ' (μ' ++ [a]) H' H' := ⟨fun b o q n => ⟨q, fun z => by
      rcases z with z | z
      · rcases List.mem_append.mp z with z | z
        · exact n (.inl z)
        · exact n (.inr (.inr (by simpa using z)))
      · exact n (.inr (.inl z))⟩, fun n b q => by rw [List.getElem?_append_left (List.getElem?_eq_some_iff.mp q).1]; exact q⟩
  refine ⟨by simp [s.len], ?_, fun b z w => ?_, fun b w => s.trn b (.inl w), fun n y q => ?_⟩
  · rw [List.nodup_append]
    exact ⟨s.nd, by simp, fun b hb c hc => by
      have : c = a := by simpa using hc
      subst this
      exact fun z => nm (z ▸ hb)⟩
  · rcases List.mem_append.mp z with z | z
    · exact s.dis b z (.inl w)
    · have : b = a := by simpa using z
      subst this
      exact na w
  · by_cases hn : n < S'.length
    · rw [List.getElem?_append_left hn] at q
      obtain ⟨b, e1, e2⟩ := s.obs n y q
      exact ⟨b, kp.num n b e1, e2.mono kp fun _ q => q⟩
    · have hn2 : n = S'.length := by
        have := (List.getElem?_eq_some_iff.mp q).1
        rw [List.length_append, List.length_singleton] at this
        omega
      subst hn2
      rw [List.getElem?_append_right (Nat.le_refl _), Nat.sub_self] at q
      cases q
      refine ⟨a, ?_, h.mono kp fun _ q => q⟩
      rw [← s.len, List.getElem?_append_right (Nat.le_refl _), Nat.sub_self] <;> rfl
def retW (m : EM) : SM := fun env S => (m env S).bind fun x S1 => .ok (.rt (.ref S1.length)) (S1 ++ [x])
theorem ds_retW (h : PE X e (tN X.K cl E m)) : PS X (.Return (some e) pos) (tS X.K cl E (retW m)) := (ps_ret h).imp fun D σ H ⟨W, ω, μ, S, env, rl, q⟩ => by
  refine ⟨W, ω, μ, S, env, rl, q.back.mono fun x S1 μ1 H1 _ s1 e1 q1 a ha sb at_ => ?_⟩
  have na : ¬ Wo W ω a := fun z => rl.sim.trk a z ha
  have s2 := sb.pushNew na at_
  refine q1 (μ1 ++ [a]) H1 (.ref a) (s2.weak wo_left) ⟨fun b o q n _ => e1.keep b o q n, e1.dom, fun n b z => ?_, fun b z => ?_⟩ (.ref ?_)
  · rw [List.getElem?_append_left (List.getElem?_eq_some_iff.mp (e1.pre n b z)).1]; exact e1.pre n b z
  · rcases z with z | z
    · rcases List.mem_append.mp z with z | z
      · exact (e1.new b z).elim .inl fun z => .inr (.inr z)
      · have : b = a := by simpa using z
        subst this
        exact .inr (.inr ha)
    · exact nomatch z
  · rw [← sb.len, List.getElem?_append_right (Nat.le_refl _), Nat.sub_self] <;> rfl
/-- x.append(e), x a shared list -/
def appR (i : Nat) (m : EM) : SM := fun env S => match env[i]? with
  | some (.v (.ref n)) => (match S[n]? with
    | some (.lst _) => (m env S).bind fun x S1 => (match S1[n]? with
      | some (.lst xs) => if xs.length < 16777216 then .ok (.nx env) (S1.set n (.lst (xs ++ [x]))) else .bad
      | _ => .bad)
    | _ => .bad)
  | _ => .bad
theorem ds_appR {te : TE} (h : PS X st (tDrop (tBM X.K "list" rAppend (tVar i) (tCons te tNil)))) (hi : ∀ σ H Q, tD X.K cl E m σ H Q → te σ H Q) : PS X st (tS X.K cl E (appR i m)) := h.imp fun D σ H ⟨W, ω, μ, S, env, rl, q⟩ => by
  unfold appR at q
  split at q
  · rename_i n he
    split at q
    · rename_i ys hs
      obtain ⟨o, sv, h1, h2, _, v0, h4, h5⟩ := rl.slot he
      subst h4
      cases h5 with
      | @ref _ a hn =>
        obtain ⟨b, g1, g2⟩ := rl.sim.obs n _ hs
        rw [hn] at g1
        cases g1
        cases g2 with
        | @lst _ vs g2 g3 =>
          refine ⟨.ref a, h2, .inl ⟨rfl, vs, .of g2⟩, hi _ _ _ ⟨W, ω, μ, S, env, rl, q.ofG.mono fun x S1 μ1 H1 _ s1 e1 q1 v rv => ?_⟩⟩
          split at q1
          · rename_i xs hs1
            obtain ⟨b, k1, k2⟩ := s1.obs n _ hs1
            have hn1 := e1.pre n a hn
            rw [hn1] at k1
            cases k1
            cases k2 with
            | @lst _ ws k2 k3 =>
              split at q1
              · rename_i hl
                obtain ⟨s2, e2⟩ := s1.upd hn1 (y := .lst (xs ++ [x])) (o := .lst (ws ++ [v])) (.lst (k3.snoc rv))
                exact ⟨a, ws, v, rfl, rfl, k2, by rw [sizeLine_eq, ← k3.length]; assumption, q1 ω μ1 σ _ ((rl.ext e1 s1).ext e2 s2) e2.s⟩
              · exact q1.elim
          · exact q1.elim
    · exact q.elim
  · exact q.elim
end
end Dm

set_option Elab.async false
set_option linter.all false
set_option maxRecDepth 100000
set_option autoImplicit false
set_option maxHeartbeats 1000000
/-! DmN: try .. except C as e. -/
namespace Dm
open PySem PySem.Spec L2
section
variable {K : PySem.W.Frag} {cl : Cl} {W : Addr → Prop} {ω : List (Option Addr)} {μ μ' : List Addr} {S S' : Sto} {env : List Sv} {σ : St} {H H' : Hp}
/-- a name that holds what is not told -/
theorem Rl.un (r : Rl K cl W ω μ S env σ H) (i : Nat) (z : Option V) : Rl K cl W (ω.set i none) μ S (env.set i .un) (σ.set i z) H := by
  have sub : ∀ a, Wo W (ω.set i none) a → Wo W ω a := fun a z => z.elim .inl fun z => .inr ((List.mem_or_eq_of_mem_set z).elim id fun z => nomatch z)
  refine ⟨r.sim.weak sub, by simp [r.l1], by simp [r.l2], fun j e o s h1 h2 h3 => ?_, fun j k a h1 h2 => ?_, fun a z => r.ow a ((List.mem_or_eq_of_mem_set z).elim id fun z => nomatch z)⟩
  · by_cases hj : j = i
    · subst hj
      rw [List.getElem?_set_self (by have := (List.getElem?_eq_some_iff.mp h1).1; simpa using this)] at h1
      rw [List.getElem?_set_self (by have := (List.getElem?_eq_some_iff.mp h2).1; simpa using this)] at h2
      cases h1; cases h2
      exact rfl
    · rw [List.getElem?_set_ne (Ne.symm hj)] at h1 h2 h3
      exact (r.at_ j e o s h1 h2 h3).mono (Kp.weak sub) fun _ _ _ q => q
  · have f : ∀ l : Nat, (ω.set i none)[l]? = some (some a) → ω[l]? = some (some a) := fun l q => by
      by_cases hl : l = i
      · subst hl
        rw [List.getElem?_set_self (by have := (List.getElem?_eq_some_iff.mp q).1; simpa using this)] at q
        cases q
      · rw [List.getElem?_set_ne (Ne.symm hl)] at q; exact q
    exact r.od j k a (f j h1) (f k h2)
theorem XFs.weak {V0 V1 : Addr → Prop} {d : Addr} {ns : List Str} {xs : List Vl} (h : ∀ a, V1 a → V0 a) (x : XFs K cl (Bn V0 μ) μ H d ns xs) : XFs K cl (Bn V1 μ) μ H d ns xs := by
  obtain ⟨fs, e1, e2, e3⟩ := x
  exact ⟨fs, e1, e2, e3.mono (Kp.weak h)⟩
/-- behind the suite the name is gone -/
def post (i : Nat) : Res Fl → Res Fl
  | .ok (.nx env) S => .ok (.nx (env.set i .un)) S
  | .ok (.bk env) S => .ok (.bk (env.set i .un)) S
  | .ok (.ct env) S => .ok (.ct (env.set i .un)) S
  | r => r
theorem post_sat {r : Res Fl} {D : Ends} {E : XK} {i : Nat} (h : SatF K cl W ω μ H (post i r) D E) :
    SatF K cl W ω μ H r { nx := fun σ' H' => D.nx (σ'.set i none) H', rt := D.rt, bk := fun σ' H' => D.bk (σ'.set i none) H', ct := fun σ' H' => D.ct (σ'.set i none) H' } E := by
  cases r with
  | bad => exact h
  | exc c ns xs S' => exact h
  | ok f S' =>
    cases f with
    | nx env => exact fun ω' μ' σ' H' rl e => h _ μ' _ H' (rl.un i none) (e.drop fun _ z => mem_set_none z)
    | bk env => exact fun ω' μ' σ' H' rl e => h _ μ' _ H' (rl.un i none) (e.drop fun _ z => mem_set_none z)
    | ct env => exact fun ω' μ' σ' H' rl e => h _ μ' _ H' (rl.un i none) (e.drop fun _ z => mem_set_none z)
    | rt x => exact h
end
/-! ### the suites: a word, a field of the error; alone or in a tuple; stored or returned -/
inductive Sx where
  | s (z : Str) | f (n : Str)
def sxV (ns : List Str) (xs : List Vl) : Sx → Option Vl
  | .s z => some (.str z)
  | .f n => fGet ns xs n
def sxsV (ns : List Str) (xs : List Vl) : List Sx → Option (List Vl)
  | [] => some []
  | s :: ss => match sxV ns xs s, sxsV ns xs ss with
    | some y, some ys => some (y :: ys)
    | _, _ => none
def sxT (i : Nat) (C a : Addr) (cls : Value) (d : Option Addr) : Sx → TE
  | .s z => tC (.str z)
  | .f n => tXf a cls d C n (tVar i)
def sxsT (i : Nat) (C a : Addr) (cls : Value) (d : Option Addr) : List Sx → TA
  | [] => tNil
  | s :: ss => tCons (sxT i C a cls d s) (sxsT i C a cls d ss)
section
variable {K : PySem.W.Frag} {cl : Cl} {W : Addr → Prop} {ω : List (Option Addr)} {μ μ' : List Addr} {S S' : Sto} {env : List Sv} {σ : St} {H H' : Hp} {i : Nat} {C a d : Addr} {ns : List Str} {xs : List Vl} {B : Addr → Prop}
theorem sx_t {s : Sx} {x : Vl} {Q : VK} (hσ : σ[i]? = some (some (.ref a))) (hx : XFs K cl B μ H d ns xs) (h : sxV ns xs s = some x) (q : ∀ v, Rep K cl B μ H x v → Q v H) : sxT i C a (.ref C) (some d) s σ H Q := by
  cases s with
  | s z =>
    cases h
    exact q _ (.str z)
  | f n =>
    obtain ⟨fs, e1, e2, e3⟩ := hx
    subst e2
    obtain ⟨v, l, r⟩ := (fGet_ok e3).1 x h
    exact ⟨.ref a, hσ, rfl, rfl, d, fs, v, rfl, e1, l, q v r⟩
theorem sxs_t : ∀ {ss : List Sx} {ys : List Vl} {Q : List V → Hp → Prop}, σ[i]? = some (some (.ref a)) → XFs K cl B μ H d ns xs → sxsV ns xs ss = some ys → (∀ vs, Reps K cl B μ H ys vs → vs.length = ss.length → Q vs H) → sxsT i C a (.ref C) (some d) ss σ H Q
  | [], ys, Q, _, _, h, q => by
    cases h
    exact q [] .nil rfl
  | s :: ss, ys, Q, hσ, hx, h, q => by
    unfold sxsV at h
    cases h1 : sxV ns xs s with
    | none => rw [h1] at h; cases h
    | some y =>
      rw [h1] at h
      cases h2 : sxsV ns xs ss with
      | none => rw [h2] at h; cases h
      | some zs =>
        rw [h2] at h
        cases h
        exact sx_t hσ hx h1 fun v rv => sxs_t hσ hx h2 fun vs rs hl => q (v :: vs) (.cons rv rs) (by rw [List.length_cons, List.length_cons, hl])
end
abbrev HM := List Str → List Vl → SM
def HdOk (K : PySem.W.Frag) (cl : Cl) (cN i : Nat) (ts : Addr → Value → Option Addr → TS) (h : HM) : Prop :=
  ∀ (W : Addr → Prop) (ω : List (Option Addr)) (μ : List Addr) (S : Sto) (env : List Sv) (σ : St) (H : Hp) (a d : Addr) (ns : List Str) (xs : List Vl) (D : Ends) (E : XK), Rl K cl W ω μ S env σ H → σ[i]? = some (some (.ref a)) → XFs K cl (Bn (Wo W ω) μ) μ H d ns xs →
    SatF K cl W ω μ H (h ns xs env S) D E → ts a (.ref (cl cN)) (some d) D σ H
def hAsg (j : Nat) (s : Sx) : HM := fun ns xs env S => match sxV ns xs s with
  | some x => .ok (.nx (env.set j (.v x))) S
  | none => .bad
def hAsgT (j : Nat) (ss : List Sx) : HM := fun ns xs env S => match sxsV ns xs ss with
  | some ys => .ok (.nx (env.set j (.v (.tup ys)))) S
  | none => .bad
def hRet (s : Sx) : HM := fun ns xs env S => match sxV ns xs s with
  | some x => .ok (.rt x) S
  | none => .bad
def hRetT (ss : List Sx) : HM := fun ns xs env S => match sxsV ns xs ss with
  | some ys => .ok (.rt (.tup ys)) S
  | none => .bad
section
variable {K : PySem.W.Frag} {cl : Cl} {cN i j : Nat}
theorem hd_asg {s : Sx} : HdOk K cl cN i (fun a cls d => tAsg (sxT i (cl cN) a cls d s) (gName j)) (hAsg j s) := by
  intro W ω μ S env σ H a d ns xs D E rl hσ hx q
  unfold hAsg at q
  split at q
  · rename_i x h
    exact sx_t hσ hx h fun v rv => q _ μ _ H (rl.set rv j) (ExtS.refl.drop fun _ z => mem_set_none z)
  · exact q.elim
theorem hd_asgT {ss : List Sx} (hl : ss.length ≤ 1000 := by decide) : HdOk K cl cN i (fun a cls d => tAsg (tTup (sxsT i (cl cN) a cls d ss)) (gName j)) (hAsgT j ss) := by
  intro W ω μ S env σ H a d ns xs D E rl hσ hx q
  unfold hAsgT at q
  split at q
  · rename_i ys h
    refine sxs_t hσ hx h fun vs rs hv => ⟨by rw [hv, sizeLine_eq]; omega, fun p hp => ?_⟩
    exact q _ μ _ _ ((rl.fresh hp).set (.tup upd_same (fun z => rl.sim.tracked z hp) (rs.mono (Ext.fresh hp).kp)) j) ((Ext.fresh hp).s.drop fun _ z => mem_set_none z)
  · exact q.elim
theorem hd_ret {s : Sx} : HdOk K cl cN i (fun a cls d => tRet (sxT i (cl cN) a cls d s)) (hRet s) := by
  intro W ω μ S env σ H a d ns xs D E rl hσ hx q
  unfold hRet at q
  split at q
  · rename_i x h
    exact sx_t hσ hx h fun v rv => q μ H v (rl.sim.weak wo_left) (ExtS.refl.drop fun _ z => nomatch z) (rv.mono (Kp.weak wo_left))
  · exact q.elim
theorem hd_retT {ss : List Sx} (hl : ss.length ≤ 1000 := by decide) : HdOk K cl cN i (fun a cls d => tRet (tTup (sxsT i (cl cN) a cls d ss))) (hRetT ss) := by
  intro W ω μ S env σ H a d ns xs D E rl hσ hx q
  unfold hRetT at q
  split at q
  · rename_i ys h
    refine sxs_t hσ hx h fun vs rs hv => ⟨by rw [hv, sizeLine_eq]; omega, fun p hp => ?_⟩
    exact q μ _ _ ((rl.sim.fresh hp).weak wo_left) ((Ext.fresh hp).s.drop fun _ z => nomatch z) (.tup upd_same (fun z => rl.sim.tracked (z.elim .inl fun z => .inr (.inl z)) hp) ((rs.mono (Ext.fresh hp).kp).mono (Kp.weak wo_left)))
  · exact q.elim
end
/-! ### try: x = f(..), except C as e: suite -/
def tblOf (cN : Nat) (os : List Nat) : Nat → Option Bool := fun c => if c = cN then some true else if c ∈ os then some false else none
theorem tbl_ok {K : PySem.W.Frag} {cl : Cl} {cN : Nat} {os : List Nat} (h1 : PySem.W.exmOne K (.ref (cl cN)) (.ref (cl cN)) = some true) (h2 : ∀ c ∈ os, PySem.W.exmOne K (.ref (cl c)) (.ref (cl cN)) = some false) :
    ∀ c b, tblOf cN os c = some b → PySem.W.exmOne K (.ref (cl c)) (.ref (cl cN)) = some b ∧ (b = true → c = cN) := by
  intro c b h
  unfold tblOf at h
  split at h
  · rename_i e
    subst e
    cases h
    exact ⟨h1, fun _ => rfl⟩
  · split at h
    · rename_i e
      cases h
      exact ⟨h2 c e, fun z => nomatch z⟩
    · cases h
abbrev E0 : XK := fun _ _ _ => False
def setO (j : Option Nat) (x : Vl) (env : List Sv) : List Sv := match j with
  | some j => env.set j (.v x)
  | none => env
def tryS (tbl : Nat → Option Bool) (i j : Nat) (f : List Vl → Sto → Res Vl) (mA : AM) (h : HM) : SM := fun env S => match mA env S with
  | .ok xs S1 => (match f xs S1 with
    | .ok x S2 => .ok (.nx (env.set j (.v x))) S2
    | .exc c ns ys S2 => (match tbl c with
      | some true => if i < env.length then post i (h ns ys (env.set i .un) S2) else .bad
      | some false => .exc c ns ys S2
      | none => .bad)
    | .bad => .bad)
  | _ => .bad
section
variable {X : Cx} {cl : Cl} {E : XK} {cN i j k n : Nat} {f : List Vl → Sto → Res Vl} {mA : AM} {h : HM} {ts : Addr → Value → Option Addr → TS} {tbl : Nat → Option Bool} {x nm : Str} {body suite : List Stmt} {b₀ : Stmt} {np pos pos' : Pos}
theorem ds_tryA (hs : X.stack = X.env :: X.outer) (hf : X.env.frame = some X.env.locals) (hN : X.N.Nodup) (hi : X.N[i]? = some nm) (hln : X.env.kindOf nm = some .local) (hc : Names X x (.ref (cl cN))) (tk : Takes X fun cls d _ H => E cls d H)
    (ht : ∀ c b, tbl c = some b → PySem.W.exmOne X.K (.ref (cl c)) (.ref (cl cN)) = some b ∧ (b = true → c = cN)) (hn : LenA mA n)
    (hb : ∀ (W : WX) (pn : List (Addr × Obj)) (xe : Value → Shared → Prop), Takes (X.tr pn xe) W → PassesOwn (model X.prog X.w) X.A X.env xe → PSs (X.tr pn xe) body (tAsg (tCallS (spM X.K cl n f) (WE W) (tDA X.K cl E0 mA)) (gName j)))
    (hsu : ∀ (a : Addr) (oe : Obj) (cls : Value) (d : Option Addr) (pn : List (Addr × Obj)), Zc cls d oe → (∃ vs, oe.data = .fields vs) → PSs (X.suite a ((a, oe) :: pn)) (b₀ :: suite) (ts a cls d)) (hh : HdOk X.K cl cN i ts h) :
    PS X (.Try body [.ExceptHandler (some (.Name x np)) (some nm) (b₀ :: suite) pos'] [] [] pos) (tS X.K cl E (tryS tbl i j f mA h)) :=
  (ps_try_as hs hf hN hi hln hc tk hb hsu).imp fun D σ H ⟨W, ω, μ, S, env, rl, q⟩ => by
    unfold tryS at q
    refine ⟨W, ω, μ, S, env, rl, ?_⟩
    cases hm : mA env S with
    | bad => rw [hm] at q; exact q.elim
    | exc c ns xs S1 => rw [hm] at q; exact q.elim
    | ok xs S1 =>
      rw [hm] at q
      intro μ1 H1 s1 e1 vs rs
      refine ⟨Wo W ω, μ1, S1, xs, s1, rs, hn _ _ _ _ hm, ?_⟩
      dsimp only at q
      cases hf : f xs S1 with
      | bad => rw [hf] at q; exact q.elim
      | ok y S2 =>
        rw [hf] at q
        intro μ2 H2 s2 e2 v rv
        exact q _ μ2 _ H2 (((rl.ext e1 s1).ext e2 s2).set rv j) ((e1.trans e2).s.drop fun _ z => mem_set_none z)
      | exc c ns ys S2 =>
        rw [hf] at q
        intro μ2 H2 d s2 e2 xf
        dsimp only at q
        cases hb : tbl c with
        | none => rw [hb] at q; exact q.elim
        | some b =>
          rw [hb] at q
          obtain ⟨t1, t2⟩ := ht c b hb
          cases b with
          | false => exact ⟨false, t1, (fun z => nomatch z), fun _ => q μ2 H2 d (s2.weak wo_left) ((e1.trans e2).s.drop fun _ z => nomatch z) (xf.weak wo_left)⟩
          | true =>
            have hcN := t2 rfl
            subst hcN
            refine ⟨true, t1, fun _ a ha => ?_, fun z => nomatch z⟩
            dsimp only at q
            split at q
            · rename_i hl
              have rl3 := ((rl.ext e1 s1).ext e2 s2).un i (some (.ref a))
              have sub : ∀ b, Wo W (ω.set i none) b → Wo W ω b := fun b z => z.elim .inl fun z => .inr (mem_set_none z)
              exact hh W _ μ2 S2 _ _ H2 a d ns ys _ E rl3 (List.getElem?_set_self (by rw [← rl.l1]; exact hl)) (xf.weak sub) (post_sat (SatF.step q ((e1.trans e2).s.drop fun _ z => mem_set_none z)))
            · exact q.elim
end
end Dm

set_option Elab.async false
set_option linter.all false
set_option maxRecDepth 100000
set_option autoImplicit false
set_option maxHeartbeats 1000000
/-! DmP: the head's hook with one root more (what reading a class asks). -/
namespace Dm
open PySem PySem.Spec L2
def obsXC (n : Nat) (fx : List Fx) (fa : List He.Fa) (fn : List He.DefD) (g : Addr → Option Obj) : AlX := obsX fx fa fn (He.frG g (cStatics :: He.asD g n))
def hookC (n : Nat) (fx : List Fx) (fa : List He.Fa) (fn : List He.DefD) : PySem.W.Hook where
  α := AlX
  obs := fun s => obsXC n fx fa fn s.heap.get?
  val := fun _ => (true, He.valD fn)
  says := fun _ h => ∃ K : PySem.W.Frag, K.In h ∧ SaysX fx fa fn K
  of := fun _ _ e => ⟨_, He.frG_in, ⟨congrArg (fun z : AlX => z.1) e, congrArg (fun z : AlX => z.2) e⟩⟩
  keeps := fun _ _ _ ⟨K, hK, c⟩ k => ⟨K, PySem.W.Frag.In.keeps hK k, c⟩
theorem obsXC_eq {n : Nat} {fx : List Fx} {fa : List He.Fa} {fn : List He.DefD} {g : Addr → Option Obj} {s : Shared} (h : ∀ a, g a = s.heap.get? a) : obsXC n fx fa fn g = (hookC n fx fa fn).obs s := by
  have e : g = s.heap.get? := funext h
  rw [e] <;> rfl
end Dm

set_option Elab.async false
set_option linter.all false
set_option maxRecDepth 100000
set_option autoImplicit false
set_option maxHeartbeats 1000000
/-! DmQ: try around the making of an instance; str * int. -/
namespace L2
open PySem PySem.Spec PyProof.Rows
section
variable {X : Cx} {CX : CXT} {k : Nat} {f C : Addr} {fd : FuncData} {ps : List Str} {sp : Sp} {E : St → XK} {x : Str} {p pos : Pos} {e : Expr} {es : List Expr} {t : TA}
theorem run_makeS {pins : List (Addr × Obj)} {σ : St} {H : Hp} {s : Shared} {Q : VK} {us : List Value} {vs : List V} (M : Mk X.K C f) (F : FnOk X.prog X.w X.K X.mg X.base CX k f fd ps sp) (hr : Room (k + 1) X.A) (hb : Binds X.K fd ps [])
    (hx : PassesAt CX X σ (E σ)) (I : Inv X pins σ H s) (r : Vals vs us)
    (h : ∀ x dx, H x = none → H dx = none → dx ≠ x → sp (.ref x :: vs) (upd (upd H dx (.own x)) x (.ins C dx [])) (fun v H2 => v = .non ∧ Q (.ref x) H2) (E σ)) :
    wpAny (model X.prog X.w) X.A (call (.ref C) us) (EP X pins σ Q) X.xe s := by
  have hq := h (s.heap.objs.size + 1) s.heap.objs.size (I.hok.fresh (Nat.le_succ _)) (I.hok.fresh (Nat.le_refl _)) (Nat.ne_of_lt (Nat.lt_succ_self _))
  have I2 := Inv.made (C := C) I
  have r2 : Vals (V.ref (s.heap.objs.size + 1) :: vs) (Value.ref (s.heap.objs.size + 1) :: us) := .cons rfl r
  have hl : (Value.ref (s.heap.objs.size + 1) :: us).length = ps.length := by
    have e := r2.length
    rw [F.len _ _ _ _ hq] at e
    exact e.symm
  have b := hb _ (Value.ref (s.heap.objs.size + 1) :: us) I2.kIn (by rw [List.append_nil]; exact hl)
  rw [List.append_nil] at b
  refine wpAny_call (make_map (f := f) I.kIn M.makes M.init (beq_iff_eq.mp M.fn) (codeAny_mono (F.run _ X.stack _ _ ⟨Value.ref (s.heap.objs.size + 1) :: us, []⟩ (Value.ref (s.heap.objs.size + 1) :: us) _ _ (E σ) (hr.make C us [])
    (I2.env0.make C us []) b r2 hq) fun r s' hq' => ?_))
  cases r with
  | error e => exact hx pins _ _ e s' I2 hq'
  | ok fl =>
    cases fl with
    | ret u =>
      obtain ⟨v, H', I3, rv, ev, q3⟩ := I2.after hq'
      subst ev
      exact ⟨rv, ⟨V.ref (s.heap.objs.size + 1), H', I3, rfl, q3⟩⟩
    | next => exact False.elim hq'
    | brk => exact False.elim hq'
    | cont => exact False.elim hq'
def tMakeS (C : Addr) (sp : Sp) (E : St → XK) (t : TA) : TE := fun σ H Q => t σ H fun vs H1 => ∀ x dx, H1 x = none → H1 dx = none → dx ≠ x →
  sp (.ref x :: vs) (upd (upd H1 dx (.own x)) x (.ins C dx [])) (fun v H2 => v = .non ∧ Q (.ref x) H2) (E σ)
theorem pe_makeS (M : Mk X.K C f) (F : FnOk X.prog X.w X.K X.mg X.base CX k f fd ps sp) (hr : Room (k + 1) X.A) (hg : Gl X x) (hm : X.mg x = some (.ref C)) (hb : Binds X.K fd ps []) (hx : ∀ σ, PassesAt CX X σ (E σ))
    (ha : PA X (e :: es) t) (hdb : (x == ("__debug__" : Str)) = false := by decide) (he : starEach (e :: es) X.env = (false, eval e X.env) :: starEach es X.env := by rfl) (hpl : (backTo pos (starEach es X.env)).any (·.1) = false := by rfl) :
    PE X (.Call (.Name x p) (e :: es) [] pos) (tMakeS C sp E t) := by
  refine ⟨fun pins s σ H Q I h => ?_⟩
  refine wpAny_Call_Name_kw (ld_glob I hg hm ?_ hdb)
  refine PySem.W.callWith_K (h₀ := X.base) I.ok.mod.kin M.kp (thn (ha.run pos pins s σ H _ I h) fun us s1 ⟨vs, H1, I1, r, q⟩ => ⟨I1.kIn, ?_⟩) he hpl
  exact run_makeS M F hr hb (hx σ) I1 r q
end
end L2
namespace Dm
open PySem PySem.Spec L2
def tryM (tbl : Nat → Option Bool) (i : Nat) (f : Addr → List Vl → Sto → Res Vl) (mA : AM) (h : HM) : SM := fun env S => match mA env S with
  | .ok xs S1 => (match f 0 xs S1 with
    | .ok x S2 => .ok (.nx env) S2
    | .exc c ns ys S2 => (match tbl c with
      | some true => if i < env.length then post i (h ns ys (env.set i .un) S2) else .bad
      | some false => .exc c ns ys S2
      | none => .bad)
    | .bad => .bad)
  | _ => .bad
section
variable {X : Cx} {cl : Cl} {E : XK} {cN cM i k n : Nat} {f : Addr → List Vl → Sto → Res Vl} {mA : AM} {h : HM} {ts : Addr → Value → Option Addr → TS} {tbl : Nat → Option Bool} {x nm : Str} {body suite : List Stmt} {b₀ : Stmt} {np pos pos' : Pos}
theorem ds_tryM (hs : X.stack = X.env :: X.outer) (hf : X.env.frame = some X.env.locals) (hN : X.N.Nodup) (hi : X.N[i]? = some nm) (hln : X.env.kindOf nm = some .local) (hc : Names X x (.ref (cl cN))) (tk : Takes X fun cls d _ H => E cls d H)
    (ht : ∀ c b, tbl c = some b → PySem.W.exmOne X.K (.ref (cl c)) (.ref (cl cN)) = some b ∧ (b = true → c = cN)) (hn : LenA mA n) (hbl : Blind f)
    (hb : ∀ (W : WX) (pn : List (Addr × Obj)) (xe : Value → Shared → Prop), Takes (X.tr pn xe) W → PassesOwn (model X.prog X.w) X.A X.env xe → PSs (X.tr pn xe) body (tDrop (tMakeS (cl cM) (spI X.K cl cM n f) (WE W) (tDA X.K cl E0 mA))))
    (hsu : ∀ (a : Addr) (oe : Obj) (cls : Value) (d : Option Addr) (pn : List (Addr × Obj)), Zc cls d oe → (∃ vs, oe.data = .fields vs) → PSs (X.suite a ((a, oe) :: pn)) (b₀ :: suite) (ts a cls d)) (hh : HdOk X.K cl cN i ts h) :
    PS X (.Try body [.ExceptHandler (some (.Name x np)) (some nm) (b₀ :: suite) pos'] [] [] pos) (tS X.K cl E (tryM tbl i f mA h)) :=
  (ps_try_as hs hf hN hi hln hc tk hb hsu).imp fun D σ H ⟨W, ω, μ, S, env, rl, q⟩ => by
    unfold tryM at q
    refine ⟨W, ω, μ, S, env, rl, ?_⟩
    cases hm : mA env S with
    | bad => rw [hm] at q; exact q.elim
    | exc c ns xs S1 => rw [hm] at q; exact q.elim
    | ok xs S1 =>
      rw [hm] at q
      intro μ1 H1 s1 e1 vs rs x dx hx hdx hne
      dsimp only at q
      refine make_core (Q := fun _ H1 => D.nx σ H1) hbl s1 rs (hn _ _ _ _ hm) ?_ x dx hx hdx hne
      cases hf : f 0 xs S1 with
      | bad => rw [hf] at q; exact q.elim
      | ok y S2 =>
        rw [hf] at q
        intro μ2 H2 s2 e2 a _ _ _
        exact q ω μ2 σ H2 ((rl.ext e1 s1).ext e2 s2) (e1.trans e2).s
      | exc c ns ys S2 =>
        rw [hf] at q
        intro μ2 H2 d s2 e2 xf
        dsimp only at q
        cases hb : tbl c with
        | none => rw [hb] at q; exact q.elim
        | some b =>
          rw [hb] at q
          obtain ⟨t1, t2⟩ := ht c b hb
          cases b with
          | false => exact ⟨false, t1, (fun z => nomatch z), fun _ => q μ2 H2 d (s2.weak wo_left) ((e1.trans e2).s.drop fun _ z => nomatch z) (xf.weak wo_left)⟩
          | true =>
            have hcN := t2 rfl
            subst hcN
            refine ⟨true, t1, fun _ a ha => ?_, fun z => nomatch z⟩
            dsimp only at q
            split at q
            · rename_i hl
              have rl3 := ((rl.ext e1 s1).ext e2 s2).un i (some (.ref a))
              have sub : ∀ b, Wo W (ω.set i none) b → Wo W ω b := fun b z => z.elim .inl fun z => .inr (mem_set_none z)
              exact hh W _ μ2 S2 _ _ H2 a d ns ys _ E rl3 (List.getElem?_set_self (by rw [← rl.l1]; exact hl)) (xf.weak sub) (post_sat (SatF.step q ((e1.trans e2).s.drop fun _ z => mem_set_none z)))
            · exact q.elim
end
/-! ### str * int -/
def repS (z : Str) (k : Int) : Str := ⟨(List.replicate k.toNat z.cps).foldl (· ++ ·) #[]⟩
def rMulS : R2 := fun x y H Q => ∃ z k, x = .str z ∧ y = .int k ∧ 2 ≤ k ∧ k ≤ 1000 ∧ 1 ≤ z.cps.size ∧ z.cps.size ≤ 1000 ∧ Q (.str (repS z k)) H
def mulSF : F2 := fun _ x y => match x, y with
  | .str z, .int k => if 2 ≤ k ∧ k ≤ 1000 ∧ 1 ≤ z.cps.size ∧ z.cps.size ≤ 1000 then some (.str (repS z k)) else none
  | _, _ => none
theorem s_mulS {X : Cx} {cl : Cl} : Op2 X cl rMulS mulSF := by
  intro W ω μ S H x y z v u Q s rx ry h k
  unfold mulSF at h
  split at h
  · rename_i a b
    split at h
    · rename_i hc
      cases h
      have hv : v = .str a := by
        rcases rx with rx | ⟨_, _, _, rx⟩
        · cases rx; rfl
        · cases rx
      have hu : u = .int b := by
        rcases ry with rx | ⟨_, _, _, rx⟩
        · cases rx; rfl
        · cases rx
      exact ⟨a, b, hv, hu, hc.1, hc.2.1, hc.2.2.1, hc.2.2.2, k H _ s Ext.refl (.str _)⟩
    · cases h
  · cases h
theorem repS_size (c : Array Nat) : ∀ (n : Nat) (a : Array Nat), ((List.replicate n c).foldl (· ++ ·) a).size = a.size + n * c.size
  | 0, a => by simp
  | n + 1, a => by
    rw [List.replicate_succ, List.foldl_cons, repS_size c n]
    rw [Array.size_append, Nat.succ_mul]
    omega
theorem op_mulS {X : Cx} : OpR X (binaryOp .Mult) rMulS := by
  intro pins s σ H x y v u Q I rx ry h
  obtain ⟨z, k, rfl, rfl, k1, k2, z1, z2, q⟩ := h
  obtain ⟨t, rfl⟩ := rx
  obtain ⟨t', rfl⟩ := ry
  have hlen : z.length = z.cps.size := rfl
  have e1 : (k == 1 || z.length == 0) = false := by
    rw [Bool.or_eq_false_iff]
    exact ⟨beq_eq_false_iff_ne.mpr (by omega), beq_eq_false_iff_ne.mpr (by rw [hlen]; omega)⟩
  have hmul : z.cps.size * k.toNat ≤ 1000 * 1000 := Nat.mul_le_mul z2 (by omega)
  refine PySem.P.mul_str (by rw [decide_eq_false (by omega), decide_eq_false (by omega)]; rfl) (fun _ _ hh => ?_) (fun _ _ => ?_) ?_
  · have h1 : ((z.cps.size : Nat) : Int) * k ≤ 2 ^ 63 - 1 := by
      have : ((z.cps.size * k.toNat : Nat) : Int) ≤ 1000 * 1000 := by exact_mod_cast hmul
      rw [Int.natCast_mul, Int.toNat_of_nonneg (by omega)] at this
      omega
    have h2 := (Int.le_ediv_iff_mul_le (show (0 : Int) < k by omega)).mpr h1
    rw [hlen] at hh
    omega
  · unfold Builtin.Str.tooLong
    refine decide_eq_false ?_
    rw [hlen, sizeLine_eq]
    omega
  · rw [if_neg (by omega), if_neg (by rw [e1]; decide)]
    refine ⟨?_, ⟨.str (repS z k), H, I.tok _, ⟨_, rfl⟩, q⟩⟩
    show ((List.replicate k.toNat z.cps).foldl (· ++ ·) #[]).size ≤ sizeLine
    rw [repS_size, sizeLine_eq, Nat.mul_comm]
    have : (#[] : Array Nat).size = 0 := rfl
    omega
end Dm

set_option Elab.async false
set_option linter.all false
set_option maxRecDepth 100000
set_option autoImplicit false
set_option maxHeartbeats 1000000
/-! DmR: xs.index(s), texts. -/
namespace Dm
open PySem PySem.Spec L2
def strsOf : List Vl → Option (List Str)
  | [] => some []
  | .str s :: xs => (strsOf xs).map (s :: ·)
  | _ => none
def idxF : F2 := fun S x y => match look S x, y with
  | .lst xs, .str s => (strsOf xs).bind fun ss => (ss.findIdx? fun q => decide (q = s)).map fun j => .int (j : Nat)
  | _, _ => none
def idxM (a b : EM) : EM := fun env S => (a env S).bind fun x S1 => match look S1 x with
  | .lst _ => (b env S1).bind fun y S2 => match idxF S2 x y with
    | some v => .ok v S2
    | none => .bad
  | _ => .bad
theorem strs_reps {K : PySem.W.Frag} {cl : Cl} {B : Addr → Prop} {μ : List Addr} {H : Hp} : ∀ {xs : List Vl} {vs : List V} {ss : List Str}, Reps K cl B μ H xs vs → strsOf xs = some ss → vs = ss.map V.str
  | _, _, _, .nil, h => by cases h; rfl
  | _, _, ss, .cons r rs, h => by
    cases r with
    | str s =>
      unfold strsOf at h
      obtain ⟨t, ht, rfl⟩ := Option.map_eq_some_iff.mp h
      rw [strs_reps rs ht]
      rfl
    | _ => cases h
theorem eqV_str (a b : Str) : eqV (.str a) (.str b) = decide (a = b) := by
  show (a == b) = _
  by_cases h : a = b
  · subst h; simp
  · simp [h]
variable {X : Cx} {cl : Cl} {E : XK} {a b : EM}
theorem de_idx {e : Expr} (h : PE X e (tBM X.K "list" (rIndex X.K) (tL X.K cl E a) (tCons (tD X.K cl E b) tNil))) : PE X e (tD X.K cl E (idxM a b)) := h.imp fun σ H Q ⟨W, ω, μ, S, env, rl, q⟩ => by
  refine ⟨W, ω, μ, S, env, rl, q.bind.mono fun x S1 μ1 H1 _ s1 e1 q1 v rv => ?_⟩
  have r1 := repR_of s1 rv
  revert q1 r1
  generalize hx : look S1 x = x'
  intro q1 r1
  cases x' with
  | lst xs =>
    obtain ⟨p, vs, rfl, h2, h3⟩ := repR_lst r1
    refine ⟨.inl ⟨rfl, vs, .of h2⟩, ⟨W, ω, μ1, S1, env, rl.ext e1 s1, SatG.mono (SatG.bind q1) fun y S2 μ2 H2 _ s2 e2 q2 u ru => ?_⟩⟩
    cases hz : idxF S2 x y with
    | none => rw [hz] at q2; exact q2.elim
    | some z =>
      rw [hz] at q2
      unfold idxF at hz
      have r2 := repR_of s2 (RepL.mono s1 e2 rv)
      revert hz r2
      generalize look S2 x = x2
      intro hz r2
      cases x2 with
      | lst ys =>
        cases y with
        | str s =>
          cases ru
          obtain ⟨p2, ws, e3, h4, h5⟩ := repR_lst r2
          cases e3
          dsimp only at hz
          obtain ⟨ss, hs, hz⟩ := Option.bind_eq_some_iff.mp hz
          obtain ⟨j, hj, rfl⟩ := Option.map_eq_some_iff.mp hz
          have ew := strs_reps h5 hs
          subst ew
          obtain ⟨hjl, hp, hno⟩ := List.findIdx?_eq_some_iff_getElem.mp hj
          refine ⟨p, ss.map V.str, .str s, j, .str ss[j], rfl, rfl, .of h4, rfl, ?_, ?_, ?_, fun m z' hm hz' => ?_, q2 μ2 H2 s2 Ext.refl _ (.int _)⟩
          · rw [List.all_map]
            exact List.all_eq_true.mpr fun _ _ => rfl
          · rw [List.getElem?_map, List.getElem?_eq_getElem hjl]
            rfl
          · rw [eqV_str]
            exact hp
          · rw [List.getElem?_map, List.getElem?_eq_getElem (by omega)] at hz'
            cases hz'
            rw [eqV_str]
            have := hno m hm
            simpa using this
        | _ => cases hz
      | _ => cases hz
  | _ => exact q1.elim
end Dm

set_option Elab.async false
set_option linter.all false
set_option maxRecDepth 100000
set_option autoImplicit false
set_option maxHeartbeats 1000000
/-! DmJ: plain tools: a mirror's run, stepwise. -/
namespace Dm
open PySem PySem.Spec L2
def Ret {α : Type} (r : Res α) (Q : α → Sto → Prop) : Prop := ∃ a S, r = .ok a S ∧ Q a S
theorem Ret.bind {α β : Type} {r : Res α} {k : α → Sto → Res β} {P : α → Sto → Prop} {Q : β → Sto → Prop} (h : Ret r P) (n : ∀ a S, P a S → Ret (k a S) Q) : Ret (r.bind k) Q := by
  obtain ⟨a, S, rfl, p⟩ := h
  exact n a S p
theorem Ret.mono {α : Type} {r : Res α} {P Q : α → Sto → Prop} (h : Ret r P) (n : ∀ a S, P a S → Q a S) : Ret r Q := by
  obtain ⟨a, S, e, p⟩ := h
  exact ⟨a, S, e, n a S p⟩
@[simp] theorem ret_ok {α : Type} {a : α} {S : Sto} {Q : α → Sto → Prop} : Ret (.ok a S) Q ↔ Q a S := ⟨fun ⟨_, _, e, q⟩ => by cases e; exact q, fun q => ⟨a, S, rfl, q⟩⟩
theorem Ret.nox {α : Type} {r : Res α} {P : α → Sto → Prop} (h : Ret r P) : Ret r.nox P := by
  obtain ⟨a, S, rfl, p⟩ := h
  exact ⟨a, S, rfl, p⟩
theorem loop_ret {f : TF} {b : SM} (I : Nat → List Sv → Sto → Prop) : ∀ (xs : List Vl) (n : Nat) (env : List Sv) (S : Sto), I n env S →
    (∀ i x env S, xs[i]? = some x → I (n + i) env S → ∃ env1, f x env = some env1 ∧ Ret (b env1 S) fun fl S1 => ∃ e2, (fl = .nx e2 ∨ fl = .ct e2) ∧ I (n + i + 1) e2 S1) →
    Ret (loopS f b xs env S) fun fl S1 => ∃ e, fl = .nx e ∧ I (n + xs.length) e S1
  | [], n, env, S, h, _ => ⟨_, _, rfl, env, rfl, h⟩
  | x :: xs, n, env, S, h, st => by
    obtain ⟨env1, e1, r⟩ := st 0 x env S rfl h
    unfold loopS
    rw [e1]
    refine Ret.bind r fun fl S1 ⟨e2, hf, hi⟩ => ?_
    have rest := loop_ret I xs (n + 1) e2 S1 hi fun i y env S hy hI => by
      have := st (i + 1) y env S (by simpa using hy) (by rw [show n + (i + 1) = n + 1 + i from by omega]; exact hI)
      rw [show n + (i + 1) + 1 = n + 1 + i + 1 from by omega] at this
      exact this
    have e3 : n + 1 + xs.length = n + (x :: xs).length := by simp; omega
    rw [e3] at rest
    rcases hf with rfl | rfl <;> exact rest
theorem comp_ret {f : TF} {tt : TM} {te : EM} {env : List Sv} (I : Sto → Prop) (R : Nat → Vl → Vl → Prop) : ∀ (xs : List Vl) (n : Nat) (S : Sto), I S →
    (∀ i x S, xs[i]? = some x → I S → ∃ env1, f x env = some env1 ∧ Ret (tt env1 S) fun k S1 => k = true ∧ Ret (te env1 S1) fun y S2 => I S2 ∧ R (n + i) x y) →
    Ret (compL f tt te env xs S) fun ys S1 => I S1 ∧ ys.length = xs.length ∧ ∀ (i : Nat) (x y : Vl), xs[i]? = some x → ys[i]? = some y → R (n + i) x y
  | [], n, S, h, _ => ⟨_, _, rfl, h, rfl, fun i x y hx _ => by simp at hx⟩
  | x :: xs, n, S, h, st => by
    obtain ⟨env1, e1, r⟩ := st 0 x S rfl h
    unfold compL
    rw [e1]
    refine Ret.bind r.nox fun k S1 ⟨hk, r2⟩ => ?_
    subst hk
    refine Ret.bind r2.nox fun y S2 ⟨hi, hR⟩ => ?_
    refine Ret.bind (comp_ret I R xs (n + 1) S2 hi fun i z S hz hI => ?_) fun ys S3 ⟨h3, hl, hr⟩ => ?_
    · have := st (i + 1) z S (by simpa using hz) hI
      rw [show n + (i + 1) = n + 1 + i from by omega] at this
      exact this
    · refine ⟨_, _, rfl, h3, by simp [hl], fun i a c ha hc => ?_⟩
      cases i with
      | zero =>
        simp at ha hc
        subst ha hc
        exact hR
      | succ i =>
        have := hr i a c (by simpa using ha) (by simpa using hc)
        rw [show n + (i + 1) = n + 1 + i from by omega]
        exact this
/-- a comprehension that only reckons -/
theorem comp_map {f : TF} {te : EM} {env : List Sv} {S : Sto} (g : Vl → Vl) : ∀ (xs : List Vl), (∀ x ∈ xs, ∃ env1, f x env = some env1 ∧ te env1 S = .ok (g x) S) → compL f yesT te env xs S = .ok (xs.map g) S
  | [], _ => rfl
  | x :: xs, h => by
    obtain ⟨env1, e1, r⟩ := h x (List.mem_cons_self ..)
    unfold compL
    rw [e1]
    have t := comp_map g xs fun y hy => h y (List.mem_cons_of_mem _ hy)
    show (te env1 S).nox.bind (fun y S2 => (compL f yesT te env xs S2).bind fun ys S3 => Res.ok (y :: ys) S3) = _
    rw [r]
    show (compL f yesT te env xs S).bind (fun ys S3 => Res.ok (g x :: ys) S3) = _
    rw [t]
    rfl
section
variable {env : List Sv} {S : Sto} {a b c m o : EM} {tA tB tt : TM} {A : AM} {im : IM} {f g : F2} {f1 : F1} {fa : FA} {l h : OM} {i j : Nat} {x y : Vl} {Q : Vl → Sto → Prop} {QT : Bool → Sto → Prop} {QA : List Vl → Sto → Prop} {QO : Option Int → Sto → Prop}
theorem w_var (e : env[i]? = some (.v x)) (q : Q x S) : Ret (varM i env S) Q := by
  unfold varM
  rw [e]
  exact ⟨_, _, rfl, q⟩
theorem w_varL (e : env[i]? = some (.v x)) (q : Q x S) : Ret (varL i env S) Q := by
  unfold varL
  rw [e]
  exact ⟨_, _, rfl, q⟩
theorem w_varO (e : env[i]? = some (.ow x)) (q : Q x S) : Ret (varL i env S) Q := by
  unfold varL
  rw [e]
  exact ⟨_, _, rfl, q⟩
theorem w_c (q : Q x S) : Ret (cM x env S) Q := ⟨_, _, rfl, q⟩
theorem w_op {o : Option Vl} (h : ∃ v, o = some v ∧ Q v S) : Ret (match o with | some v => Res.ok v S | none => .bad) Q := by
  obtain ⟨v, rfl, q⟩ := h
  exact ⟨_, _, rfl, q⟩
theorem w_bin (h : Ret (a env S) fun x S1 => Ret (b env S1) fun y S2 => ∃ v, f S2 x y = some v ∧ Q v S2) : Ret (bin2 f a b env S) Q := h.bind fun _ _ h => h.bind fun _ _ h => w_op h
theorem w_un (h : Ret (a env S) fun x S1 => ∃ v, f1 S1 x = some v ∧ Q v S1) : Ret (un1 f1 a env S) Q := h.bind fun _ _ h => w_op h
theorem w_cB (h : Ret (A env S) fun xs S1 => ∃ v, fa S1 xs = some v ∧ Q v S1) : Ret (cB fa A env S) Q := h.bind fun _ _ h => w_op h
theorem w_tv (h : Ret (m env S) fun x S1 => ∃ k, x = .bl k ∧ QT k S1) : Ret (tv m env S) QT := h.bind fun x S1 h => by
  obtain ⟨k, rfl, q⟩ := h
  exact ⟨_, _, rfl, q⟩
theorem w_andT (h : Ret (tA env S) fun k S1 => (k = true → Ret (tB env S1) QT) ∧ (k = false → QT false S1)) : Ret (andT tA tB env S) QT := h.bind fun k S1 h => by
  cases k
  · exact ⟨_, _, rfl, h.2 rfl⟩
  · exact h.1 rfl
theorem w_orT (h : Ret (tA env S) fun k S1 => (k = true → QT true S1) ∧ (k = false → Ret (tB env S1) QT)) : Ret (orT tA tB env S) QT := h.bind fun k S1 h => by
  cases k
  · exact h.2 rfl
  · exact ⟨_, _, rfl, h.1 rfl⟩
theorem w_notT (h : Ret (tA env S) fun k S1 => QT (!k) S1) : Ret (notT tA env S) QT := h.bind fun k S1 h => ⟨_, _, rfl, h⟩
theorem w_andV (h : Ret (a env S) fun x S1 => ∃ k, x = .bl k ∧ (k = true → Ret (b env S1) Q) ∧ (k = false → Q (.bl false) S1)) : Ret (andV a b env S) Q := h.bind fun x S1 h => by
  obtain ⟨k, rfl, h⟩ := h
  cases k
  · exact ⟨_, _, rfl, h.2 rfl⟩
  · exact h.1 rfl
theorem w_orV (h : Ret (a env S) fun x S1 => ∃ k, x = .bl k ∧ (k = true → Q (.bl true) S1) ∧ (k = false → Ret (b env S1) Q)) : Ret (orV a b env S) Q := h.bind fun x S1 h => by
  obtain ⟨k, rfl, h⟩ := h
  cases k
  · exact h.2 rfl
  · exact ⟨_, _, rfl, h.1 rfl⟩
theorem w_notV (h : Ret (a env S) fun x S1 => ∃ k, x = .bl k ∧ Q (.bl (!k)) S1) : Ret (notV a env S) Q := h.bind fun x S1 h => by
  obtain ⟨k, rfl, h⟩ := h
  exact ⟨_, _, rfl, h⟩
theorem w_ifM (h : Ret (tA env S) fun k S1 => (k = true → Ret (a env S1) Q) ∧ (k = false → Ret (b env S1) Q)) : Ret (ifM tA a b env S) Q := h.bind fun k S1 h => by
  cases k
  · exact h.2 rfl
  · exact h.1 rfl
theorem w_ch (h : Ret (a env S) fun x S1 => Ret (b env S1) fun y S2 => ∃ k, f S2 x y = some (.bl k) ∧ (k = true → Ret (c env S2) fun z S3 => ∃ v, g S3 y z = some v ∧ Q v S3) ∧ (k = false → Q (.bl false) S2)) : Ret (ch3 f g a b c env S) Q := h.bind fun x S1 h => h.bind fun y S2 h => by
  obtain ⟨k, e, h⟩ := h
  rw [e]
  cases k
  · exact ⟨_, _, rfl, h.2 rfl⟩
  · exact (h.1 rfl).bind fun _ _ h => w_op h
theorem w_nil (h : QA [] S) : Ret (nilA env S) QA := ⟨_, _, rfl, h⟩
theorem w_cons (h : Ret (m env S) fun x S1 => Ret (A env S1) fun xs S2 => QA (x :: xs) S2) : Ret (consA m A env S) QA := h.bind fun x S1 h => h.bind fun xs S2 h => ⟨_, _, rfl, h⟩
theorem w_tup (h : Ret (A env S) fun xs S1 => Q (.tup xs) S1) : Ret (tupM A env S) Q := h.bind fun xs S1 h => ⟨_, _, rfl, h⟩
theorem w_lst (h : Ret (A env S) fun xs S1 => Q (.lst xs) S1) : Ret (lstM A env S) Q := h.bind fun xs S1 h => ⟨_, _, rfl, h⟩
theorem w_call {r : List Vl → Sto → Res Vl} (h : Ret (A env S) fun xs S1 => Ret (r xs S1) Q) : Ret (callM r A env S) Q := h.bind fun xs S1 h => h
theorem w_callD {r : List Vl → Sto → Res Vl} {ds : List Vl} (h : Ret (A env S) fun xs S1 => Ret (r (xs ++ ds) S1) Q) : Ret (callD r ds A env S) Q := h.bind fun xs S1 h => h
theorem w_callL {r : List Vl → Sto → Res Vl} (he : envOk env = true) (h : Ret (A env S) fun xs S1 => Ret (r xs S1) fun x S2 => nlB x = true ∧ stOk S2 = true ∧ Q x S2) : Ret (callL r A env S) Q := by
  unfold callL
  rw [if_pos he]
  refine h.bind fun xs S1 h => ?_
  obtain ⟨x, S2, e, h1, h2, q⟩ := h
  rw [e]
  dsimp only
  rw [h1, h2]
  exact ⟨_, _, rfl, q⟩
theorem w_make {r : Addr → List Vl → Sto → Res Vl} (h : Ret (A env S) fun xs S1 => Ret (r 0 xs S1) Q) : Ret (makeM r A env S) Q := h.bind fun xs S1 h => h
theorem w_makeK {r : Addr → List Vl → Sto → Res Vl} {ix : List Nat} (h : Ret (A env S) fun xs S1 => Ret (r 0 (pick ix xs) S1) Q) : Ret (makeK r ix A env S) Q := h.bind fun xs S1 h => h
theorem w_makeL {r : Addr → List Vl → Sto → Res Vl} (he : envOk env = true) (h : Ret (A env S) fun xs S1 => Ret (r 0 xs S1) fun x S2 => nlO x = true ∧ stOk S2 = true ∧ Q x S2) : Ret (makeL r A env S) Q := by
  unfold makeL
  rw [if_pos he]
  refine h.bind fun xs S1 h => ?_
  obtain ⟨x, S2, e, h1, h2, q⟩ := h
  rw [e]
  dsimp only
  rw [h1, h2]
  exact ⟨_, _, rfl, q⟩
theorem w_eqC {k : Nat} {r : List Vl → Sto → Res Vl} {n : Bool → Bool} (h : Ret (a env S) fun x S1 => Ret (b env S1) fun y S2 => eqOk S2 k x y = true ∧ Ret (r [x, y] S2) fun z S3 => ∃ q, z = .bl q ∧ Q (.bl (n q)) S3) : Ret (binC k r n a b env S) Q := h.bind fun x S1 h => h.bind fun y S2 h => by
  rw [if_pos h.1]
  exact h.2.bind fun z S3 ⟨q, hz, hq⟩ => by subst hz; exact ⟨_, _, rfl, hq⟩
theorem w_fld {k : Nat} {nm : Str} (h : Ret (a env S) fun x S1 => ∃ ns xs v, look S1 x = .ins k ns xs ∧ fGet ns xs nm = some v ∧ Q v S1) : Ret (fldM k nm a env S) Q := h.bind fun x S1 h => by
  obtain ⟨ns, xs, v, e1, e2, q⟩ := h
  rw [e1]
  dsimp only
  rw [if_pos rfl, e2]
  exact ⟨_, _, rfl, q⟩
theorem w_meth {k : Nat} {nm : Str} {r : List Vl → Sto → Res Vl} (h : Ret (a env S) fun x S1 => ∃ ns xs, look S1 x = .ins k ns xs ∧ fGet ns xs nm = none ∧ Ret (A env S1) fun ys S2 => Ret (r (x :: ys) S2) Q) : Ret (methM k nm r a A env S) Q := h.bind fun x S1 h => by
  obtain ⟨ns, xs, e1, e2, q⟩ := h
  rw [e1]
  dsimp only
  rw [if_pos ⟨rfl, e2⟩]
  exact q.bind fun _ _ h => h
theorem w_isi {ts : List Ty} (h : Ret (a env S) fun x S1 => ∃ t, tyOf S1 x = some t ∧ Q (.bl (ts.any (isaB t))) S1) : Ret (isiM ts a env S) Q := h.bind fun x S1 h => by
  obtain ⟨t, e, q⟩ := h
  rw [e]
  exact ⟨_, _, rfl, q⟩
theorem w_iso {ds cs : List Nat} (h : Ret (a env S) fun x S1 => (∃ d ns xs, look S1 x = .ins d ns xs ∧ d ∈ cs ∧ Q (.bl (decide (d ∈ ds))) S1) ∨ ((∃ t, tyOf S1 x = some t) ∧ Q (.bl false) S1)) : Ret (isoM ds cs a env S) Q := h.bind fun x S1 h => by
  rcases h with ⟨d, ns, xs, e, hd, q⟩ | ⟨⟨t, e⟩, q⟩
  · rw [e]
    dsimp only
    rw [if_pos hd]
    exact ⟨_, _, rfl, q⟩
  · have : ∀ z, look S1 x = z → Ret (match z with | .ins d _ _ => (if d ∈ cs then Res.ok (.bl (decide (d ∈ ds))) S1 else .bad) | _ => match tyOf S1 x with | some _ => .ok (.bl false) S1 | none => .bad) Q := fun z hz => by
      rw [e]
      cases z with
      | ins d ns xs => unfold tyOf at e; rw [hz] at e; cases e
      | _ => exact ⟨_, _, rfl, q⟩
    exact this _ rfl
theorem w_oN (h : QO none S) : Ret (oN env S) QO := ⟨_, _, rfl, h⟩
theorem w_oS (h : Ret (m env S) fun x S1 => ∃ n, x = .int n ∧ QO (some n) S1) : Ret (oS m env S) QO := h.bind fun x S1 h => by
  obtain ⟨n, rfl, q⟩ := h
  exact ⟨_, _, rfl, q⟩
theorem w_sl (hh : Ret (a env S) fun x S1 => Ret (l env S1) fun p S2 => Ret (h env S2) fun q S3 => ∃ v, slF S3 x p q = some v ∧ Q v S3) : Ret (slM a l h env S) Q := hh.bind fun _ _ h => h.bind fun _ _ h => h.bind fun _ _ h => w_op h
theorem w_slN (hh : Ret (a env S) fun x S1 => Ret (l env S1) fun p S2 => Ret (h env S2) fun q S3 => ∃ v, slLF S3 x p q = some v ∧ Q v S3) : Ret (slN a l h env S) Q := hh.bind fun _ _ h => h.bind fun _ _ h => h.bind fun _ _ h => w_op h
theorem w_seqI (h : Ret (m env S) fun x S1 => ∃ xs, seqOf x = some xs ∧ QA xs S1) : Ret (seqI m env S) QA := h.bind fun x S1 h => by
  obtain ⟨xs, e, q⟩ := h
  rw [e]
  exact ⟨_, _, rfl, q⟩
theorem w_rng1 (h : Ret (A env S) fun xs S1 => ∃ n : Int, xs = [.int n] ∧ (-(2 ^ 62) ≤ n ∧ n ≤ 16777216) ∧ QA (rgI 0 n.toNat) S1) : Ret (rngI A env S) QA := h.bind fun xs S1 h => by
  obtain ⟨n, rfl, hn, q⟩ := h
  dsimp only
  rw [if_pos hn]
  exact ⟨_, _, rfl, q⟩
theorem w_enI (h : Ret (A env S) fun xs S1 => ∃ x ys, xs = [x] ∧ seqOf x = some ys ∧ QA (enL ys) S1) : Ret (enI A env S) QA := h.bind fun xs S1 h => by
  obtain ⟨x, ys, rfl, e, q⟩ := h
  dsimp only
  rw [e]
  exact ⟨_, _, rfl, q⟩
theorem w_zpI (h : Ret (A env S) fun xs S1 => ∃ x y ys zs, xs = [x, y] ∧ seqOf x = some ys ∧ seqOf y = some zs ∧ QA (zpL ys zs) S1) : Ret (zpI A env S) QA := h.bind fun xs S1 h => by
  obtain ⟨x, y, ys, zs, rfl, e, e2, q⟩ := h
  dsimp only
  rw [e, e2]
  exact ⟨_, _, rfl, q⟩
theorem w_strI (h : Ret (m env S) fun x S1 => ∃ z, x = .str z ∧ z.cps.size ≤ 16777216 ∧ QA (chars z) S1) : Ret (strI m env S) QA := h.bind fun x S1 h => by
  obtain ⟨z, rfl, hz, q⟩ := h
  dsimp only
  rw [if_pos hz]
  exact ⟨_, _, rfl, q⟩
theorem w_comp {vs : List Nat} {k : TF} {env1 : List Sv} (hw : wipeE vs env = some env1) (h : Ret (im env S) fun xs S1 => Ret (compL k tt m env1 xs S1) fun ys S2 => Q (.lst ys) S2) : Ret (compM im vs k tt m env S) Q := h.bind fun xs S1 h => by
  rw [hw]
  exact h.bind fun ys S2 h => ⟨_, _, rfl, h⟩
variable {s1 s2 s3 : SM} {QF : Fl → Sto → Prop}
theorem w_run {N : Nat} {xs : List Vl} (h : Ret (s1 (startE N xs) S) fun fl S1 => match fl with | .rt x => Q x S1 | .nx _ => Q .non S1 | _ => False) : Ret (runM N s1 xs S) Q := h.bind fun fl S1 h => by
  cases fl <;> first | exact ⟨_, _, rfl, h⟩ | exact h.elim
theorem w_init {N k : Nat} {xs : List Vl} {p : Addr} (h : Ret (s1 (startI N k p xs) S) fun fl S1 => ∃ x r, fl = .nx (.sf p x :: r) ∧ Q x S1) : Ret (runI N k s1 p xs S) Q := h.bind fun fl S1 h => by
  obtain ⟨x, r, rfl, q⟩ := h
  have e : selfOf p (.sf p x :: r) = some x := if_pos rfl
  dsimp only
  rw [e]
  exact ⟨_, _, rfl, q⟩
theorem w_nilS (h : QF (.nx env) S) : Ret (nilS env S) QF := ⟨_, _, rfl, h⟩
theorem w_ret (h : Ret (m env S) fun x S1 => QF (.rt x) S1) : Ret (retS m env S) QF := h.bind fun x S1 h => ⟨_, _, rfl, h⟩
theorem w_retO (e : env[i]? = some (.ow x)) (h : QF (.rt x) S) : Ret (retV i env S) QF := by
  unfold retV
  rw [e]
  exact ⟨_, _, rfl, h⟩
theorem w_ifS (h : Ret (tA env S) fun k S1 => (k = true → Ret (s1 env S1) QF) ∧ (k = false → Ret (s2 env S1) QF)) : Ret (ifS tA s1 s2 env S) QF := h.bind fun k S1 h => by
  cases k
  · exact h.2 rfl
  · exact h.1 rfl
theorem w_set (h : Ret (m env S) fun x S1 => QF (.nx (env.set i (.v x))) S1) : Ret (setS i m env S) QF := h.bind fun x S1 h => ⟨_, _, rfl, h⟩
theorem w_expr (h : Ret (m env S) fun _ S1 => QF (.nx env) S1) : Ret (exprS m env S) QF := h.bind fun x S1 h => ⟨_, _, rfl, h⟩
theorem w_app {xs : List Vl} (e : env[i]? = some (.ow (.lst xs))) (h : Ret (m env S) fun x S1 => xs.length < 16777216 ∧ QF (.nx (env.set i (.ow (.lst (xs ++ [x]))))) S1) : Ret (appO i m env S) QF := by
  unfold appO
  rw [e]
  refine h.bind fun x S1 h => ?_
  rw [if_pos h.1]
  exact ⟨_, _, rfl, h.2⟩
theorem w_setR {mo mi mv : EM} (h : Ret (mv env S) fun x S1 => Ret (mo env S1) fun o S2 => Ret (mi env S2) fun j S3 => ∃ n k xs t, o = .ref n ∧ j = .int k ∧ S3[n]? = some (.lst xs) ∧ ixN xs.length k = some t ∧ QF (.nx env) (S3.set n (.lst (xs.set t x)))) : Ret (setR mo mi mv env S) QF := h.bind fun x S1 h => h.bind fun o S2 h => h.bind fun j S3 h => by
  obtain ⟨n, k, xs, t, rfl, rfl, e1, e2, q⟩ := h
  dsimp only
  rw [e1]
  dsimp only
  rw [e2]
  exact ⟨_, _, rfl, q⟩
theorem w_sf {k : Nat} {nm : Str} {p : Addr} {ns : List Str} {xs : List Vl} (h : Ret (m env S) fun y S1 => ∃ p ns xs, env[i]? = some (.sf p (.ins k ns xs)) ∧ ns.length < 1000 ∧ QF (.nx (env.set i (.sf p (.ins k (fPut ns xs nm y).1 (fPut ns xs nm y).2)))) S1) : Ret (sfS k nm i m env S) QF := h.bind fun y S1 h => by
  obtain ⟨p, ns, xs, e, hl, q⟩ := h
  rw [e]
  dsimp only
  rw [if_pos ⟨rfl, hl⟩]
  exact ⟨_, _, rfl, q⟩
/-- one after another -/
theorem w_seq (h : Ret (s1 env S) fun fl S1 => match fl with | .nx e => Ret (s2 e S1) QF | f => QF f S1) : Ret (seqS s1 s2 env S) QF := h.bind fun fl S1 h => by
  cases fl <;> first | exact h | exact ⟨_, _, rfl, h⟩
theorem w_assoc (h : Ret (seqS s1 (seqS s2 s3) env S) QF) : Ret (seqS (seqS s1 s2) s3 env S) QF := by
  have : seqS (seqS s1 s2) s3 env S = seqS s1 (seqS s2 s3) env S := by
    unfold seqS
    cases s1 env S with
    | ok fl S1 => cases fl <;> rfl
    | _ => rfl
  rw [this]
  exact h
theorem w_qnil (h : Ret (s2 env S) QF) : Ret (seqS nilS s2 env S) QF := w_seq (w_nilS h)
theorem w_qset (h : Ret (m env S) fun x S1 => Ret (s2 (env.set i (.v x)) S1) QF) : Ret (seqS (setS i m) s2 env S) QF := w_seq (w_set h)
theorem w_qown (h : Ret (m env S) fun x S1 => Ret (s2 (env.set i (.ow x)) S1) QF) : Ret (seqS (ownS i m) s2 env S) QF := w_seq (h.bind fun x S1 h => ⟨_, _, rfl, h⟩)
theorem w_qnew (h : Ret (m env S) fun x S1 => Ret (s2 (env.set i (.v (.ref S1.length))) (S1 ++ [x])) QF) : Ret (seqS (newS i m) s2 env S) QF := w_seq (h.bind fun x S1 h => ⟨_, _, rfl, h⟩)
theorem w_qexpr (h : Ret (m env S) fun _ S1 => Ret (s2 env S1) QF) : Ret (seqS (exprS m) s2 env S) QF := w_seq (w_expr h)
theorem w_qret (h : Ret (m env S) fun x S1 => QF (.rt x) S1) : Ret (seqS (retS m) s2 env S) QF := w_seq (w_ret h)
theorem w_qif (h : Ret (tA env S) fun k S1 => (k = true → Ret (seqS s1 s3 env S1) QF) ∧ (k = false → Ret (seqS s2 s3 env S1) QF)) : Ret (seqS (ifS tA s1 s2) s3 env S) QF := by
  refine w_seq (w_ifS (h.mono fun k S1 h => ⟨fun hk => ?_, fun hk => ?_⟩))
  · obtain ⟨f, S2, e, q⟩ := h.1 hk
    unfold seqS at e
    cases hr : s1 env S1 with
    | ok fl S3 =>
      rw [hr] at e
      refine ⟨fl, S3, rfl, ?_⟩
      cases fl with
      | nx en => exact ⟨f, S2, e, q⟩
      | _ => cases e; exact q
    | _ => rw [hr] at e; cases e
  · obtain ⟨f, S2, e, q⟩ := h.2 hk
    unfold seqS at e
    cases hr : s2 env S1 with
    | ok fl S3 =>
      rw [hr] at e
      refine ⟨fl, S3, rfl, ?_⟩
      cases fl with
      | nx en => exact ⟨f, S2, e, q⟩
      | _ => cases e; exact q
    | _ => rw [hr] at e; cases e
theorem w_qapp {xs : List Vl} (e : env[i]? = some (.ow (.lst xs))) (h : Ret (m env S) fun x S1 => xs.length < 16777216 ∧ Ret (s2 (env.set i (.ow (.lst (xs ++ [x])))) S1) QF) : Ret (seqS (appO i m) s2 env S) QF := w_seq (w_app e h)
theorem w_qclr {xs : List Vl} (e : env[i]? = some (.ow (.lst xs))) (h : Ret (s2 (env.set i (.ow (.lst []))) S) QF) : Ret (seqS (clrO i) s2 env S) QF := w_seq (by
  unfold clrO
  rw [e]
  exact ⟨_, _, rfl, h⟩)
theorem w_qsetR {mo mi mv : EM} (h : Ret (mv env S) fun x S1 => Ret (mo env S1) fun o S2 => Ret (mi env S2) fun j S3 => ∃ n k xs t, o = .ref n ∧ j = .int k ∧ S3[n]? = some (.lst xs) ∧ ixN xs.length k = some t ∧ Ret (s2 env (S3.set n (.lst (xs.set t x)))) QF) : Ret (seqS (setR mo mi mv) s2 env S) QF := w_seq (w_setR h)
theorem w_qsf {k : Nat} {nm : Str} (h : Ret (m env S) fun y S1 => ∃ p ns xs, env[i]? = some (.sf p (.ins k ns xs)) ∧ ns.length < 1000 ∧ Ret (s2 (env.set i (.sf p (.ins k (fPut ns xs nm y).1 (fPut ns xs nm y).2))) S1) QF) : Ret (seqS (sfS k nm i m) s2 env S) QF := w_seq (w_sf (p := 0) (ns := []) (xs := []) h)
theorem w_sf2 {k : Nat} {nm : Str} (h : Ret (m env S) fun y S1 => ∃ p ns xs ns' xs', env[i]? = some (.sf p (.ins k ns xs)) ∧ fPut ns xs nm y = (ns', xs') ∧ ns.length < 1000 ∧ QF (.nx (env.set i (.sf p (.ins k ns' xs')))) S1) : Ret (sfS k nm i m env S) QF := w_sf (p := 0) (ns := []) (xs := []) (h.mono fun y S1 ⟨p, ns, xs, ns', xs', e, e2, hl, q⟩ => ⟨p, ns, xs, e, hl, by rw [e2]; exact q⟩)
theorem w_qsf2 {k : Nat} {nm : Str} (h : Ret (m env S) fun y S1 => ∃ p ns xs ns' xs', env[i]? = some (.sf p (.ins k ns xs)) ∧ fPut ns xs nm y = (ns', xs') ∧ ns.length < 1000 ∧ Ret (s2 (env.set i (.sf p (.ins k ns' xs'))) S1) QF) : Ret (seqS (sfS k nm i m) s2 env S) QF := w_seq (w_sf2 h)
theorem w_qpar (h : Ret (a env S) fun x S1 => Ret (b env S1) fun y S2 => Ret (s2 ((env.set i (.v x)).set j (.v y)) S2) QF) : Ret (seqS (par2 i j a b) s2 env S) QF := w_seq (h.bind fun x S1 h => h.bind fun y S2 h => ⟨_, _, rfl, h⟩)
theorem w_qparVO (h : Ret (a env S) fun x S1 => Ret (b env S1) fun y S2 => Ret (s2 ((env.set i (.v x)).set j (.ow y)) S2) QF) : Ret (seqS (parVO i j a b) s2 env S) QF := w_seq (h.bind fun x S1 h => h.bind fun y S2 h => ⟨_, _, rfl, h⟩)
theorem w_qparOO (hl : i < env.length ∧ j < env.length) (h : Ret (a env S) fun x S1 => Ret (b env S1) fun y S2 => Ret (s2 ((env.set i (.ow x)).set j (.ow y)) S2) QF) : Ret (seqS (parOO i j a b) s2 env S) QF := w_seq (h.bind fun x S1 h => h.bind fun y S2 h => by
  rw [if_pos hl]
  exact ⟨_, _, rfl, h⟩)
theorem w_qparOV (hl : i < env.length) (h : Ret (a env S) fun x S1 => Ret (b env S1) fun y S2 => Ret (s2 ((env.set i (.ow x)).set j (.v y)) S2) QF) : Ret (seqS (parOV2 i j a b) s2 env S) QF := w_seq (h.bind fun x S1 h => h.bind fun y S2 h => by
  rw [if_pos hl]
  exact ⟨_, _, rfl, h⟩)
theorem w_qunp {is : List Nat} (h : Ret (m env S) fun x S1 => ∃ xs, x = .tup xs ∧ xs.length = is.length ∧ Ret (s2 (setAll is xs env) S1) QF) : Ret (seqS (unpS is m) s2 env S) QF := w_seq (h.bind fun x S1 h => by
  obtain ⟨xs, rfl, hl, h⟩ := h
  dsimp only
  rw [if_pos hl]
  exact ⟨_, _, rfl, h⟩)
theorem w_qfor {k : TF} (h : Ret (im env S) fun xs S1 => Ret (loopS k s1 xs env S1) fun fl S2 => match fl with | .nx e => Ret (s2 e S2) QF | f => QF f S2) : Ret (seqS (forS im k s1) s2 env S) QF := w_seq (h.bind fun xs S1 h => h)
theorem w_for {k : TF} (h : Ret (im env S) fun xs S1 => Ret (loopS k s1 xs env S1) QF) : Ret (forS im k s1 env S) QF := h.bind fun xs S1 h => h
/-! ### operators -/
theorem f_ixR {n : Nat} {xs : List Vl} {k : Int} {v : Vl} (e : S[n]? = some (.lst xs)) (h : atI xs k = some v) : ixF S (.ref n) (.int k) = some v := by
  have e2 : look S (.ref n) = .lst xs := by
    unfold look
    dsimp only
    rw [e]
    rfl
  unfold ixF
  rw [e2]
  exact h
theorem f_add {p q : Int} : addF S (.int p) (.int q) = some (.int (p + q)) := rfl
theorem f_sub {p q : Int} : subF S (.int p) (.int q) = some (.int (p - q)) := rfl
theorem f_neg {p : Int} : negF S (.int p) = some (.int (-p)) := rfl
theorem f_cmp {r : Int → Int → Bool} {p q : Int} : cmpF r S (.int p) (.int q) = some (.bl (r p q)) := rfl
theorem f_int {p : Int} : intF S [.int p] = some (.int p) := rfl
theorem f_intB {p : Bool} : intF S [.bl p] = some (.int (if p then 1 else 0)) := rfl
theorem f_lenL {xs : List Vl} : lenF S [.lst xs] = some (.int xs.length) := rfl
theorem f_lenT {xs : List Vl} : lenF S [.tup xs] = some (.int xs.length) := rfl
theorem f_tupL {xs : List Vl} : tupF S [.lst xs] = some (.tup xs) := rfl
theorem f_tupT {xs : List Vl} : tupF S [.tup xs] = some (.tup xs) := rfl
theorem f_listL {xs : List Vl} : listF S [.lst xs] = some (.lst xs) := rfl
theorem f_listT {xs : List Vl} : listF S [.tup xs] = some (.lst xs) := rfl
theorem f_isN {v : Vl} : isNF S v .non = some (.bl v.isNon) := rfl
theorem f_slL {xs : List Vl} {p q : Option Int} : slF S (.lst xs) p q = some (.lst (cutL xs p q)) := rfl
theorem f_slT {xs : List Vl} {p q : Option Int} : slF S (.tup xs) p q = some (.tup (cutL xs p q)) := rfl
theorem f_slLL {xs : List Vl} {p q : Option Int} : slLF S (.lst xs) p q = some (.lst (cutL xs p q)) := rfl
theorem f_ixL {xs : List Vl} {k : Int} {v : Vl} (h : atI xs k = some v) : ixF S (.lst xs) (.int k) = some v := h
theorem f_ixT {xs : List Vl} {k : Int} {v : Vl} (h : atI xs k = some v) : ixF S (.tup xs) (.int k) = some v := h
theorem f_mod {p q : Int} (h : 0 < q) : modF S (.int p) (.int q) = some (.int (p % q)) := if_pos h
theorem f_fdiv {p q : Int} (h : 0 < q) (h2 : q < 2 ^ 200) : fdivF S (.int p) (.int q) = some (.int (p / q)) := if_pos ⟨h, h2⟩
theorem f_mul {p q : Int} (h : (-(2 ^ 64) < p ∧ p < 2 ^ 64) ∨ (-(2 ^ 64) < q ∧ q < 2 ^ 64)) : mulF S (.int p) (.int q) = some (.int (p * q)) := if_pos (.inl h)
theorem f_mulW {p q : Int} (h : p.natAbs < 2 ^ 300 ∧ q.natAbs < 2 ^ 300) : mulF S (.int p) (.int q) = some (.int (p * q)) := if_pos (.inr h)
theorem f_neI {p q : Int} : neF S (.int p) (.int q) = some (.bl (!decide (p = q))) := rfl
theorem f_eqI {p q : Int} : eqF S (.int p) (.int q) = some (.bl (decide (p = q))) := rfl
theorem f_lenS {z : Str} (h : z.cps.size ≤ 16777216) : lenF S [.str z] = some (.int z.cps.size) := if_pos h
theorem w_yes {k : Bool} {A B : Prop} (h : k = true) (a : A) : (k = true → A) ∧ (k = false → B) := ⟨fun _ => a, fun z => by rw [h] at z; cases z⟩
theorem w_no {k : Bool} {A B : Prop} (h : k = false) (b : B) : (k = true → A) ∧ (k = false → B) := ⟨fun z => (by rw [h] at z; cases z), fun _ => b⟩
theorem w_nyes {p : Prop} [Decidable p] {A B : Prop} (h : ¬ p) (a : A) : ((!decide p) = true → A) ∧ ((!decide p) = false → B) := w_yes (by rw [decide_eq_false h]; rfl) a
theorem w_nno {p : Prop} [Decidable p] {A B : Prop} (h : p) (b : B) : ((!decide p) = true → A) ∧ ((!decide p) = false → B) := w_no (by rw [decide_eq_true h]; rfl) b
theorem f_pow {p q : Int} (h : 0 ≤ q ∧ q ≤ 1000000 ∧ p.natAbs < 2 ^ 64) : powF S (.int p) (.int q) = some (.int (p ^ q.toNat)) := if_pos h
theorem f_shl {p q : Int} (h : 0 ≤ q ∧ q ≤ 1000000 ∧ p.natAbs < 2 ^ 64) : shlF S (.int p) (.int q) = some (.int (p * 2 ^ q.toNat)) := if_pos h
theorem f_eq (hx : okD (look S x) = true) (hy : okD (look S y) = true) : eqF S x y = some (.bl ((look S x).eqv (look S y))) := by
  unfold eqF
  rw [hx, hy]
  rfl
theorem f_ne (hx : okD (look S x) = true) (hy : okD (look S y) = true) : neF S x y = some (.bl (!(look S x).eqv (look S y))) := by
  unfold neF
  rw [hx, hy]
  rfl
end
end Dm

set_option Elab.async false
set_option linter.all false
set_option maxRecDepth 100000
set_option autoImplicit false
set_option maxHeartbeats 1000000
/-! DmK: plain tools: comprehensions by kinds, dicts, equality of data. -/
namespace Dm
open PySem PySem.Spec L2
section
variable {f : TF} {te : EM} {env : List Sv} {Q : Vl → Sto → Prop}
theorem comp_typ {T : Type} (enc : T → Vl) (P : Nat → T → Prop) (I : Sto → Prop) : ∀ (xs : List Vl) (n : Nat) (S : Sto), I S →
    (∀ i x S, xs[i]? = some x → I S → ∃ env1, f x env = some env1 ∧ Ret (te env1 S) fun y S1 => (∃ t, y = enc t ∧ P (n + i) t) ∧ I S1) →
    Ret (compL f yesT te env xs S) fun ys S1 => (∃ ts : List T, ys = ts.map enc ∧ ts.length = xs.length ∧ ∀ (i : Nat) (t : T), ts[i]? = some t → P (n + i) t) ∧ I S1
  | [], n, S, h, _ => ⟨_, _, rfl, ⟨[], rfl, rfl, fun i t ht => by simp at ht⟩, h⟩
  | x :: xs, n, S, h, st => by
    obtain ⟨env1, e1, r⟩ := st 0 x S rfl h
    unfold compL
    rw [e1]
    obtain ⟨y, S1, e2, ⟨t, rfl, hP⟩, hI⟩ := r
    show Ret ((te env1 S).nox.bind fun y S2 => (compL f yesT te env xs S2).bind fun ys S3 => Res.ok (y :: ys) S3) _
    rw [e2]
    show Ret ((compL f yesT te env xs S1).bind fun ys S3 => Res.ok (enc t :: ys) S3) _
    refine Ret.bind (comp_typ enc P I xs (n + 1) S1 hI fun i z S hz hI => ?_) fun ys S3 ⟨⟨ts, e, hl, hp⟩, h3⟩ => ?_
    · have := st (i + 1) z S (by simpa using hz) hI
      rw [show n + (i + 1) = n + 1 + i from by omega] at this
      exact this
    · subst e
      refine ⟨_, _, rfl, ⟨t :: ts, rfl, by simp [hl], fun i u hu => ?_⟩, h3⟩
      cases i with
      | zero =>
        simp at hu
        subst hu
        exact hP
      | succ i =>
        have := hp i u (by simpa using hu)
        rw [show n + (i + 1) = n + 1 + i from by omega]
        exact this
theorem bools_true (n : Nat) : bools (List.replicate n (.bl true)) = some (List.replicate n true) := by
  induction n with
  | zero => rfl
  | succ n ih => rw [List.replicate_succ, List.replicate_succ, bools, ih]; rfl
/-- [..] of tests: every part says True -/
theorem w_all {S : Sto} {xs : List Vl} {QA : List Vl → Sto → Prop} (h : ∀ (i : Nat) (x : Vl), xs[i]? = some x → ∃ env1, f x env = some env1 ∧ Ret (te env1 S) fun y S1 => y = .bl true ∧ S1 = S) (q : QA (List.replicate xs.length (.bl true)) S) :
    Ret (compL f yesT te env xs S) QA := by
  refine (comp_typ (fun _ : Unit => Vl.bl true) (fun _ _ => True) (fun S1 => S1 = S) xs 0 S rfl fun i x S1 hx hS => ?_).mono fun ys S1 ⟨⟨ts, e, hl, _⟩, hS⟩ => ?_
  · subst hS
    obtain ⟨env1, e1, r⟩ := h i x hx
    exact ⟨env1, e1, r.mono fun y S2 ⟨hy, hS⟩ => ⟨⟨(), hy, trivial⟩, hS⟩⟩
  · subst hS e
    have e2 : ts.map (fun _ : Unit => Vl.bl true) = List.replicate ts.length (.bl true) := List.map_const' ..
    rw [e2, hl]
    exact q
theorem f_all {S : Sto} {n : Nat} : allF S [.lst (List.replicate n (.bl true))] = some (.bl true) := by
  show (bools (List.replicate n (.bl true))).map (fun bs => Vl.bl (bs.all id)) = _
  rw [bools_true]
  simp
end
/-! ### dicts -/
theorem pairs_of (l : List (Str × Vl)) : pairsOf (l.map fun p => .tup [.str p.1, p.2]) = some (l.map fun p => (.inr p.1, p.2)) := by
  induction l with
  | nil => rfl
  | cons p l ih =>
    rw [List.map_cons, List.map_cons]
    show (match keyV (.str p.1), pairsOf (l.map fun p => .tup [.str p.1, p.2]) with | some q, some ps => some ((q, p.2) :: ps) | _, _ => none) = _
    rw [ih]
    rfl
theorem merge_nd : ∀ (l : List (Key × Vl)) (ks : List Key) (xs : List Vl), (l.map (·.1)).Nodup → (∀ k ∈ l.map (·.1), k ∉ ks) → mergeV l (ks, xs) = (ks ++ l.map (·.1), xs ++ l.map (·.2))
  | [], ks, xs, _, _ => by simp [mergeV]
  | (k, x) :: l, ks, xs, hn, hd => by
    have h1 : putV ks xs k x = (ks ++ [k], xs ++ [x]) := by
      unfold putV
      rw [if_neg]
      intro z
      obtain ⟨q, hq, e⟩ := List.any_eq_true.mp z
      exact hd k (by simp) (of_decide_eq_true e ▸ hq)
    unfold mergeV
    rw [h1]
    rw [List.map_cons, List.nodup_cons] at hn
    rw [merge_nd l _ _ hn.2 fun q hq z => ?_]
    · simp
    · rcases List.mem_append.mp z with z | z
      · exact hd q (List.mem_cons_of_mem _ hq) z
      · exact hn.1 (by rw [List.mem_singleton.mp z] at hq; exact hq)
def dkOf (l : List (Str × Vl)) : Vl := .dk (l.map fun p => .inr p.1) (l.map (·.2))
theorem f_dict {S : Sto} (l : List (Str × Vl)) (hn : (l.map (·.1)).Nodup) : dictF S [.lst (l.map fun p => .tup [.str p.1, p.2])] = some (dkOf l) := by
  show (pairsOf (l.map fun p => .tup [.str p.1, p.2])).map (fun ps => let d := mergeV ps ([], []); Vl.dk d.1 d.2) = _
  rw [pairs_of]
  have hn2 : ((l.map fun p => ((.inr p.1 : Key), p.2)).map (·.1)).Nodup := by
    rw [List.map_map]
    have : ((fun x : Key × Vl => x.1) ∘ fun p : Str × Vl => ((.inr p.1 : Key), p.2)) = Sum.inr ∘ (fun p : Str × Vl => p.1) := rfl
    rw [this, ← List.map_map]
    exact List.Pairwise.map Sum.inr (fun _ _ h z => h (Sum.inr.inj z)) hn
  have h := merge_nd (l.map fun p => (.inr p.1, p.2)) [] [] hn2 (fun _ _ z => nomatch z)
  show some (Vl.dk (mergeV _ ([], [])).1 (mergeV _ ([], [])).2) = _
  rw [h]
  simp [dkOf, List.map_map, Function.comp_def]
theorem dk_get (k : Str) : ∀ l : List (Str × Vl), dkGet (l.map fun p => .inr p.1) (l.map (·.2)) (.inr k) = (l.find? fun p => decide (p.1 = k)).map (·.2)
  | [] => rfl
  | (q, x) :: l => by
    show (if (Sum.inr q : Key) = .inr k then some x else dkGet (l.map fun p => .inr p.1) (l.map (·.2)) (.inr k)) = _
    by_cases h : q = k
    · subst h
      rw [if_pos rfl]
      simp
    · rw [if_neg (fun z => h (Sum.inr.inj z)), dk_get k l]
      simp [h]
theorem f_ixD {S : Sto} {l : List (Str × Vl)} {k : Str} {x : Vl} (h : (l.find? fun p => decide (p.1 = k)) = some (k, x)) : ixF S (dkOf l) (.str k) = some x := by
  show (keyV (.str k)).bind (dkGet (l.map fun p => .inr p.1) (l.map (·.2))) = some x
  show dkGet (l.map fun p => .inr p.1) (l.map (·.2)) (.inr k) = some x
  rw [dk_get, h]
  rfl
theorem f_inD {S : Sto} {l : List (Str × Vl)} {k : Str} : inF S (.str k) (dkOf l) = some (.bl (l.any fun p => decide (p.1 = k))) := by
  show ((keyV (.str k)).map fun q => (dkGet (l.map fun p => .inr p.1) (l.map (·.2)) q).isSome).map Vl.bl = _
  show some (Vl.bl (dkGet (l.map fun p => .inr p.1) (l.map (·.2)) (.inr k)).isSome) = _
  rw [dk_get, Option.isSome_map]
  have e : (l.find? fun p => decide (p.1 = k)).isSome = l.any fun p => decide (p.1 = k) := by
    induction l with
    | nil => rfl
    | cons p l ih =>
      by_cases h : p.1 = k
      · simp [h]
      · simp only [List.find?_cons, List.any_cons, decide_eq_false h, Bool.false_or]
        exact ih
  rw [e]
/-! ### equality of data without bools -/
mutual
def nbB : Vl → Bool
  | .non => true
  | .int _ => true
  | .str _ => true
  | .tup xs => nbBs xs
  | .lst xs => nbBs xs
  | .bl _ => false
  | .dk _ _ => false
  | .dt _ _ => false
  | .ins _ _ _ => false
  | .ref _ => false
  | .scr _ => false
  | .ftp _ => false
  | .tab _ _ => false
  | .exn _ _ _ => false
  | .fdk _ _ => false
  | .fdt _ _ => false
def nbBs : List Vl → Bool
  | [] => true
  | x :: xs => nbB x && nbBs xs
end
mutual
theorem eqv_eq : ∀ {x y : Vl}, nbB x = true → nbB y = true → PyData.eqv (toD x) (toD y) = true → x = y
  | .non, y, _, hy, h => by cases y <;> simp_all [nbB, toD, PyData.eqv]
  | .int i, y, _, hy, h => by cases y <;> simp_all [nbB, toD, PyData.eqv]
  | .str i, y, _, hy, h => by cases y <;> simp_all [nbB, toD, PyData.eqv]
  | .tup xs, y, hx, hy, h => by
    cases y with
    | tup ys =>
      have h1 : PyData.eqvAll (toDs xs) (toDs ys) = true := by simpa [toD, PyData.eqv] using h
      rw [eqvs_eq (by simpa [nbB] using hx) (by simpa [nbB] using hy) h1]
    | _ => simp_all [nbB, toD, PyData.eqv]
  | .lst xs, y, hx, hy, h => by
    cases y with
    | lst ys =>
      have h1 : PyData.eqvAll (toDs xs) (toDs ys) = true := by simpa [toD, PyData.eqv] using h
      rw [eqvs_eq (by simpa [nbB] using hx) (by simpa [nbB] using hy) h1]
    | _ => simp_all [nbB, toD, PyData.eqv]
  | .bl _, _, hx, _, _ => by simp [nbB] at hx
  | .dk _ _, _, hx, _, _ => by simp [nbB] at hx
  | .dt _ _, _, hx, _, _ => by simp [nbB] at hx
  | .ins _ _ _, _, hx, _, _ => by simp [nbB] at hx
  | .ref _, _, hx, _, _ => by simp [nbB] at hx
  | .scr _, _, hx, _, _ => by simp [nbB] at hx
  | .ftp _, _, hx, _, _ => by simp [nbB] at hx
  | .tab _ _, _, hx, _, _ => by simp [nbB] at hx
  | .exn _ _ _, _, hx, _, _ => by simp [nbB] at hx
  | .fdk _ _, _, hx, _, _ => by simp [nbB] at hx
  | .fdt _ _, _, hx, _, _ => by simp [nbB] at hx
theorem eqvs_eq : ∀ {xs ys : List Vl}, nbBs xs = true → nbBs ys = true → PyData.eqvAll (toDs xs) (toDs ys) = true → xs = ys
  | [], [], _, _, _ => rfl
  | [], _ :: _, _, _, h => by simp [toDs, PyData.eqvAll] at h
  | _ :: _, [], _, _, h => by simp [toDs, PyData.eqvAll] at h
  | x :: xs, y :: ys, hx, hy, h => by
    simp only [nbBs, Bool.and_eq_true] at hx hy
    simp only [toDs, PyData.eqvAll, Bool.and_eq_true] at h
    rw [eqv_eq hx.1 hy.1 h.1, eqvs_eq hx.2 hy.2 h.2]
end
theorem eqv_self {x : Vl} (h : okD x = true) : x.eqv x = true := SeqAt.eqv_refl _ (okN_ok h).1
theorem eqv_no {x y : Vl} (hx : nbB x = true) (hy : nbB y = true) (h : x ≠ y) : x.eqv y = false := by
  cases e : x.eqv y with
  | false => rfl
  | true => exact absurd (eqv_eq hx hy e) h
theorem nbBs_map {T : Type} (g : T → Vl) (h : ∀ t, nbB (g t) = true) : ∀ l : List T, nbBs (l.map g) = true
  | [] => rfl
  | t :: l => by
    show (nbB (g t) && nbBs (l.map g)) = true
    rw [h t, nbBs_map g h l]
    rfl
theorem nlBs_map {T : Type} (g : T → Vl) (h : ∀ t, nlB (g t) = true) : ∀ l : List T, nlBs (l.map g) = true
  | [] => rfl
  | t :: l => by
    show (nlB (g t) && nlBs (l.map g)) = true
    rw [h t, nlBs_map g h l]
    rfl
theorem all_map {T : Type} {n : Nat} (g : T → Vl) {l : List T} (h : ∀ t ∈ l, okN n (g t) = true) : (l.map g).all (okN n) = true := by
  rw [List.all_map]
  exact List.all_eq_true.mpr fun t ht => h t ht
/-! ### places, membership -/
theorem atI_nat {α : Type} (xs : List α) (k : Nat) : atI xs (k : Int) = xs[k]? := by
  unfold atI ixN
  rw [if_pos (by omega)]
  by_cases h : (k : Int) < xs.length
  · rw [if_pos h]
    show xs[(k : Int).toNat]? = xs[k]?
    rw [Int.toNat_natCast]
  · rw [if_neg h]
    exact (List.getElem?_eq_none (by omega)).symm
theorem atI_mem {α : Type} {xs : List α} {i : Int} (h0 : 0 ≤ i) (h1 : i < xs.length) : ∃ v, atI xs i = some v ∧ v ∈ xs := by
  obtain ⟨k, rfl⟩ := Int.eq_ofNat_of_zero_le h0
  have hk : k < xs.length := by omega
  exact ⟨xs[k], by rw [atI_nat]; exact List.getElem?_eq_getElem hk, List.getElem_mem hk⟩
theorem inV_strs (k : Str) : ∀ l : List Str, inV (.str k) ((l.map Vl.str).map fV) = decide (k ∈ l)
  | [] => rfl
  | q :: l => by
    show (eqV (.str q) (.str k) || inV (.str k) ((l.map Vl.str).map fV)) = _
    rw [inV_strs k l]
    show ((q == k) || decide (k ∈ l)) = _
    by_cases h : q = k
    · subst h
      simp
    · have h2 : ¬ k = q := fun z => h z.symm
      simp [h, h2]
theorem flat_strs (l : List Str) : (l.map Vl.str).all Vl.flat = true := by
  rw [List.all_map]
  exact List.all_eq_true.mpr fun _ _ => rfl
theorem f_inL {S : Sto} {k : Str} {l : List Str} : inF S (.str k) (.lst (l.map .str)) = some (.bl (decide (k ∈ l))) := by
  show (if (true && (l.map Vl.str).all Vl.flat) = true then some (inV (.str k) ((l.map Vl.str).map fV)) else none).map Vl.bl = _
  rw [flat_strs, if_pos (by rfl), inV_strs]
  rfl
theorem f_notInT {S : Sto} {k : Str} {l : List Str} : notInF S (.str k) (.tup (l.map .str)) = some (.bl (!decide (k ∈ l))) := by
  show (if (true && (l.map Vl.str).all Vl.flat) = true then some (inV (.str k) ((l.map Vl.str).map fV)) else none).map (fun b => Vl.bl (!b)) = _
  rw [flat_strs, if_pos (by rfl), inV_strs]
  rfl
theorem f_notInD {S : Sto} {l : List (Str × Vl)} {k : Str} : notInF S (.str k) (dkOf l) = some (.bl (!(l.any fun p => decide (p.1 = k)))) := by
  have h := f_inD (S := S) (l := l) (k := k)
  unfold inF at h
  unfold notInF
  cases e : inB S (.str k) (dkOf l) with
  | none => rw [e] at h; cases h
  | some b =>
    rw [e] at h
    cases h
    rfl
theorem rgI_at {n i : Nat} {x : Vl} (h : (rgI 0 n)[i]? = some x) : i < n ∧ x = .int i := by
  have hl := (List.getElem?_eq_some_iff.mp h).1
  rw [rgI_length] at hl
  rw [rgI_get hl] at h
  cases h
  exact ⟨hl, by simp⟩
theorem map_at {T : Type} {g : T → Vl} {l : List T} {i : Nat} {x : Vl} (h : (l.map g)[i]? = some x) : ∃ t, l[i]? = some t ∧ x = g t := by
  rw [List.getElem?_map] at h
  obtain ⟨t, ht, rfl⟩ := Option.map_eq_some_iff.mp h
  exact ⟨t, ht, rfl⟩
theorem enL_at {xs : List Vl} {i : Nat} {x : Vl} (h : (enL xs)[i]? = some x) : ∃ y, xs[i]? = some y ∧ x = .tup [.int i, y] := by
  have hl := (List.getElem?_eq_some_iff.mp h).1
  rw [enL_length] at hl
  have e := enL_get (List.getElem?_eq_getElem hl)
  rw [h] at e
  cases e
  exact ⟨_, List.getElem?_eq_getElem hl, rfl⟩
theorem zpL_at {xs ys : List Vl} {i : Nat} {x : Vl} (h : (zpL xs ys)[i]? = some x) : ∃ y z, xs[i]? = some y ∧ ys[i]? = some z ∧ x = .tup [y, z] := by
  have hl := (List.getElem?_eq_some_iff.mp h).1
  rw [zpL_length] at hl
  have e := zpL_get (List.getElem?_eq_getElem (show i < xs.length by omega)) (List.getElem?_eq_getElem (show i < ys.length by omega))
  rw [h] at e
  cases e
  exact ⟨_, _, List.getElem?_eq_getElem _, List.getElem?_eq_getElem _, rfl⟩
/-- a comprehension that only reckons, by kinds -/
theorem comp_pure {f : TF} {te : EM} {env : List Sv} {T : Type} (enc g : T → Vl) {S : Sto} {QA : List Vl → Sto → Prop} : ∀ (l : List T), (∀ t ∈ l, ∃ env1, f (enc t) env = some env1 ∧ Ret (te env1 S) fun y S1 => y = g t ∧ S1 = S) → QA (l.map g) S → Ret (compL f yesT te env (l.map enc) S) QA := fun l h q => by
  have e : compL f yesT te env (l.map enc) S = .ok (l.map g) S := by
    clear q
    induction l with
    | nil => rfl
    | cons t l ih =>
      obtain ⟨env1, e1, y, S1, e2, rfl, rfl⟩ := h t (List.mem_cons_self ..)
      have t2 := ih fun u hu => h u (List.mem_cons_of_mem _ hu)
      rw [List.map_cons]
      unfold compL
      rw [e1]
      show (te env1 S1).nox.bind (fun y S2 => (compL f yesT te env (l.map enc) S2).bind fun ys S3 => Res.ok (y :: ys) S3) = _
      rw [e2]
      show (compL f yesT te env (l.map enc) S1).bind (fun ys S3 => Res.ok (g t :: ys) S3) = _
      rw [t2]
      rfl
  rw [e]
  exact ⟨_, _, rfl, q⟩
/-- a tuple or a list -/
def sq : Bool → List Vl → Vl
  | true, xs => .tup xs
  | false, xs => .lst xs
theorem f_lenQ {S : Sto} {b : Bool} {xs : List Vl} : lenF S [sq b xs] = some (.int xs.length) := by cases b <;> rfl
theorem tyQ {S : Sto} {b : Bool} {xs : List Vl} : tyOf S (sq b xs) = some (if b then .tup else .lst) := by cases b <;> rfl
theorem seqQ {b : Bool} {xs : List Vl} : seqOf (sq b xs) = some xs := by cases b <;> rfl
theorem tupQ {S : Sto} {b : Bool} {xs : List Vl} : tupF S [sq b xs] = some (.tup xs) := by cases b <;> rfl
theorem isiQ {b : Bool} : [Ty.lst, Ty.tup].any (isaB (if b then Ty.tup else Ty.lst)) = true := by cases b <;> rfl
end Dm

set_option Elab.async false
set_option linter.all false
set_option maxRecDepth 100000
set_option autoImplicit false
set_option maxHeartbeats 1000000
/-! DmO: plain tools for exceptions, try, shared lists, filters. -/
namespace Dm
open PySem PySem.Spec L2
section
variable {env : List Sv} {S : Sto} {a b c m o : EM} {tA tB tt : TM} {A : AM} {im : IM} {f g : F2} {i j : Nat} {x y : Vl} {Q : Vl → Sto → Prop} {QA : List Vl → Sto → Prop} {s1 s2 s3 : SM} {QF : Fl → Sto → Prop}
theorem w_qfrz (e : env[i]? = some (.ow x)) (h : Ret (s2 (env.set i (.v x)) S) QF) : Ret (seqS (frzS i) s2 env S) QF := w_seq (by
  unfold frzS
  rw [e]
  exact ⟨_, _, rfl, h⟩)
theorem w_retW (h : Ret (m env S) fun x S1 => QF (.rt (.ref S1.length)) (S1 ++ [x])) : Ret (retW m env S) QF := h.bind fun x S1 h => ⟨_, _, rfl, h⟩
theorem w_qappR {n : Nat} {ys : List Vl} (e : env[i]? = some (.v (.ref n))) (e2 : S[n]? = some (.lst ys)) (h : Ret (m env S) fun x S1 => ∃ xs, S1[n]? = some (.lst xs) ∧ xs.length < 16777216 ∧ Ret (s2 env (S1.set n (.lst (xs ++ [x])))) QF) : Ret (seqS (appR i m) s2 env S) QF := w_seq (by
  unfold appR
  rw [e]
  dsimp only
  rw [e2]
  dsimp only
  refine h.bind fun x S1 ⟨xs, e3, hl, q⟩ => ?_
  rw [e3]
  dsimp only
  rw [if_pos hl]
  exact ⟨_, _, rfl, q⟩)
theorem w_dNew (h : Q (.dk [] []) S) : Ret (dNew env S) Q := ⟨_, _, rfl, h⟩
theorem f_addI {p q : Int} : addIF S (.int p) (.int q) = some (.int (p + q)) := rfl
theorem f_in0 {k : Int} : inF S (.int k) (.dk [] []) = some (.bl false) := rfl
theorem f_mulL {xs : List Vl} {k : Int} (h : -(2 ^ 63) ≤ k ∧ k < 2 ^ 63 ∧ xs.length * k.toNat ≤ 16777216) : mulLF S (.lst xs) (.int k) = some (.lst (List.replicate k.toNat xs).flatten) := if_pos h
theorem nums_ints : ∀ l : List Int, nums (l.map Vl.int) = some l
  | [] => rfl
  | i :: l => by
    show (nums (l.map Vl.int)).map (i :: ·) = _
    rw [nums_ints l]
    rfl
theorem f_sum {l : List Int} : sumF S [.lst (l.map Vl.int)] = some (.int l.sum) := by
  show (nums (l.map Vl.int)).map (fun bs => Vl.int bs.sum) = _
  rw [nums_ints]
  rfl
theorem w_rng2 (h : Ret (consA a (consA b nilA) env S) fun xs S1 => ∃ p q : Int, xs = [.int p, .int q] ∧ ((-(2 ^ 62) ≤ p ∧ p < 2 ^ 62 ∧ -(2 ^ 62) ≤ q ∧ q < 2 ^ 62) ∧ q - p ≤ 16777216) ∧ QA (rgI p (q - p).toNat) S1) : Ret (rngI (consA a (consA b nilA)) env S) QA := h.bind fun xs S1 h => by
  obtain ⟨p, q, rfl, hn, z⟩ := h
  dsimp only
  rw [if_pos hn]
  exact ⟨_, _, rfl, z⟩
theorem rgI_at2 {p : Int} {n i : Nat} {x : Vl} (h : (rgI p n)[i]? = some x) : i < n ∧ x = .int (p + i) := by
  have hl := (List.getElem?_eq_some_iff.mp h).1
  rw [rgI_length] at hl
  rw [rgI_get hl] at h
  cases h
  exact ⟨hl, rfl⟩
theorem f_notInL {k : Str} {l : List Str} : notInF S (.str k) (.lst (l.map .str)) = some (.bl (!decide (k ∈ l))) := by
  show (if (true && (l.map Vl.str).all Vl.flat) = true then some (inV (.str k) ((l.map Vl.str).map fV)) else none).map (fun b => Vl.bl (!b)) = _
  rw [flat_strs, if_pos (by rfl), inV_strs]
  rfl
/-- a filter that only reckons -/
theorem comp_flt {k : TF} {te : EM} {T : Type} (enc g : T → Vl) (p : T → Bool) : ∀ (l : List T), (∀ t ∈ l, ∃ env1, k (enc t) env = some env1 ∧ Ret (tt env1 S) (fun q S1 => q = p t ∧ S1 = S) ∧ (p t = true → Ret (te env1 S) fun y S1 => y = g t ∧ S1 = S)) → QA ((l.filter p).map g) S → Ret (compL k tt te env (l.map enc) S) QA := fun l h q => by
  have e : compL k tt te env (l.map enc) S = .ok ((l.filter p).map g) S := by
    clear q
    induction l with
    | nil => rfl
    | cons t l ih =>
      obtain ⟨env1, e1, ⟨q, S1, e2, rfl, rfl⟩, h2⟩ := h t (List.mem_cons_self ..)
      have t2 := ih fun u hu => h u (List.mem_cons_of_mem _ hu)
      rw [List.map_cons]
      unfold compL
      rw [e1]
      dsimp only
      rw [e2]
      cases hp : p t with
      | false =>
        rw [List.filter_cons_of_neg (by rw [hp]; decide)]
        exact t2
      | true =>
        rw [List.filter_cons_of_pos hp]
        obtain ⟨y, S2, e3, rfl, rfl⟩ := h2 hp
        show (te env1 S2).nox.bind (fun y S3 => (compL k tt te env (l.map enc) S3).bind fun ys S4 => Res.ok (y :: ys) S4) = _
        rw [e3]
        show (compL k tt te env (l.map enc) S2).bind (fun ys S4 => Res.ok (g t :: ys) S4) = _
        rw [t2]
        rfl
  rw [e]
  exact ⟨_, _, rfl, q⟩
/-! ### exceptions -/
def Exc {α : Type} (r : Res α) (c : Nat) (ns : List Str) (xs : List Vl) (Q : Sto → Prop) : Prop := ∃ S, r = .exc c ns xs S ∧ Q S
variable {n : Nat} {ns : List Str} {xs : List Vl} {QS : Sto → Prop}
theorem Exc.bind {α β : Type} {r : Res α} {k : α → Sto → Res β} (h : Exc r n ns xs QS) : Exc (r.bind k) n ns xs QS := by
  obtain ⟨S1, rfl, q⟩ := h
  exact ⟨S1, rfl, q⟩
theorem x_bind {α β : Type} {r : Res α} {k : α → Sto → Res β} (h : Ret r fun a S1 => Exc (k a S1) n ns xs QS) : Exc (r.bind k) n ns xs QS := by
  obtain ⟨a, S1, rfl, q⟩ := h
  exact q
theorem x_run {N : Nat} {ys : List Vl} (h : Exc (s1 (startE N ys) S) n ns xs QS) : Exc (runM N s1 ys S) n ns xs QS := Exc.bind h
theorem x_seq1 (h : Exc (s1 env S) n ns xs QS) : Exc (seqS s1 s2 env S) n ns xs QS := Exc.bind h
theorem x_seq (h : Ret (s1 env S) fun fl S1 => ∃ e, fl = .nx e ∧ Exc (s2 e S1) n ns xs QS) : Exc (seqS s1 s2 env S) n ns xs QS := x_bind (h.mono fun fl S1 ⟨e, z, q⟩ => by subst z; exact q)
theorem x_ifT (h : Ret (tA env S) fun k S1 => k = true ∧ Exc (s1 env S1) n ns xs QS) : Exc (ifS tA s1 s2 env S) n ns xs QS := x_bind (h.mono fun k S1 ⟨z, q⟩ => by subst z; exact q)
theorem x_rai (h : Ret (A env S) fun ys S1 => ys.reverse = xs ∧ QS S1) : Exc (raiS n ns A env S) n ns xs QS := x_bind (h.mono fun ys S1 ⟨z, q⟩ => by subst z; exact ⟨S1, rfl, q⟩)
theorem w_qtry {tbl : Nat → Option Bool} {r : List Vl → Sto → Res Vl} {hm : HM} (h : Ret (A env S) fun xs S1 => Ret (r xs S1) fun x S2 => Ret (s2 (env.set j (.v x)) S2) QF) : Ret (seqS (tryS tbl i j r A hm) s2 env S) QF := w_seq (by
  obtain ⟨xs, S1, e, x, S2, e2, q⟩ := h
  unfold tryS
  rw [e]
  dsimp only
  rw [e2]
  exact ⟨_, _, rfl, q⟩)
theorem w_qtryX {tbl : Nat → Option Bool} {r : List Vl → Sto → Res Vl} {hm : HM} (ht : tbl n = some true) (hi : i < env.length) (h : Ret (A env S) fun zs S1 => Exc (r zs S1) n ns xs fun S2 => Ret (post i (hm ns xs (env.set i .un) S2)) fun fl S3 => match fl with | .nx e => Ret (s2 e S3) QF | f => QF f S3) : Ret (seqS (tryS tbl i j r A hm) s2 env S) QF := w_seq (by
  obtain ⟨zs, S1, e, S2, e2, q⟩ := h
  unfold tryS
  rw [e]
  dsimp only
  rw [e2]
  dsimp only
  rw [ht]
  dsimp only
  rw [if_pos hi]
  exact q)
end
end Dm

set_option Elab.async false
set_option linter.all false
set_option maxRecDepth 100000
set_option autoImplicit false
set_option maxHeartbeats 1000000
/-! DmS: plain tools for exceptions, further ones (as in P02c, P02g). -/
namespace Dm
open PySem PySem.Spec L2
/-! ### exceptions, further rules -/
section
variable {env : List Sv} {S : Sto} {a b c m o : EM} {tA tB tt : TM} {A : AM} {im : IM} {i j : Nat} {s1 s2 s3 : SM} {QF : Fl → Sto → Prop} {n : Nat} {ns : List Str} {xs : List Vl} {QS : Sto → Prop}
theorem x_init {N k : Nat} {ys : List Vl} {p : Addr} (h : Exc (s1 (startI N k p ys) S) n ns xs QS) : Exc (runI N k s1 p ys S) n ns xs QS := Exc.bind h
theorem x_expr {r : List Vl → Sto → Res Vl} (h : Ret (A env S) fun ys S1 => Exc (r ys S1) n ns xs QS) : Exc (exprS (callM r A) env S) n ns xs QS := Exc.bind (x_bind h)
theorem x_for {k : TF} (h : Ret (im env S) fun ys S1 => Exc (loopS k s1 ys env S1) n ns xs QS) : Exc (forS im k s1 env S) n ns xs QS := x_bind h
theorem x_ifF (h : Ret (tA env S) fun k S1 => k = false ∧ Exc (s2 env S1) n ns xs QS) : Exc (ifS tA s1 s2 env S) n ns xs QS := x_bind (h.mono fun k S1 ⟨z, q⟩ => by subst z; exact q)
/-- a test ahead that says no -/
theorem x_past (h : Ret (tA env S) fun k S1 => k = false ∧ Exc (s3 env S1) n ns xs QS) : Exc (seqS (ifS tA s1 nilS) s3 env S) n ns xs QS := x_bind (by
  obtain ⟨k, S1, e, rfl, q⟩ := h
  refine ⟨.nx env, S1, ?_, q⟩
  unfold ifS
  rw [e]
  rfl)
theorem x_loop {f : TF} {b : SM} (I : Nat → List Sv → Sto → Prop) : ∀ (ys : List Vl) (k : Nat) (env : List Sv) (S : Sto) (at_ : Nat), I k env S →
    (∀ i x env S, i < at_ → ys[i]? = some x → I (k + i) env S → ∃ env1, f x env = some env1 ∧ Ret (b env1 S) fun fl S1 => ∃ e2, (fl = .nx e2 ∨ fl = .ct e2) ∧ I (k + i + 1) e2 S1) →
    (∃ x, ys[at_]? = some x ∧ ∀ env S, I (k + at_) env S → ∃ env1, f x env = some env1 ∧ Exc (b env1 S) n ns xs QS) → Exc (loopS f b ys env S) n ns xs QS
  | [], k, env, S, at_, _, _, ⟨x, hx, _⟩ => by simp at hx
  | y :: ys, k, env, S, 0, h, _, ⟨x, hx, e⟩ => by
    simp at hx
    subst hx
    obtain ⟨env1, e1, q⟩ := e env S h
    unfold loopS
    rw [e1]
    exact Exc.bind q
  | y :: ys, k, env, S, at_ + 1, h, st, ⟨x, hx, e⟩ => by
    obtain ⟨env1, e1, r⟩ := st 0 y env S (Nat.succ_pos _) rfl h
    unfold loopS
    rw [e1]
    refine x_bind (r.mono fun fl S1 ⟨e2, hf, hi⟩ => ?_)
    have rest := x_loop I ys (k + 1) e2 S1 at_ hi (fun i z env S hlt hz hI => by
      have := st (i + 1) z env S (Nat.succ_lt_succ hlt) (by simpa using hz) (by rw [show k + (i + 1) = k + 1 + i from by omega]; exact hI)
      rw [show k + (i + 1) + 1 = k + 1 + i + 1 from by omega] at this
      exact this) ⟨x, by simpa using hx, fun env S hI => e env S (by rw [show k + (at_ + 1) = k + 1 + at_ from by omega]; exact hI)⟩
    rcases hf with rfl | rfl <;> exact rest
theorem w_qtryM {tbl : Nat → Option Bool} {r : Addr → List Vl → Sto → Res Vl} {hm : HM} (h : Ret (A env S) fun xs S1 => Ret (r 0 xs S1) fun x S2 => Ret (s2 env S2) QF) : Ret (seqS (tryM tbl i r A hm) s2 env S) QF := w_seq (by
  obtain ⟨xs, S1, e, x, S2, e2, q⟩ := h
  unfold tryM
  rw [e]
  dsimp only
  rw [e2]
  exact ⟨_, _, rfl, q⟩)
theorem w_qtryMX {tbl : Nat → Option Bool} {r : Addr → List Vl → Sto → Res Vl} {hm : HM} (ht : tbl n = some true) (hi : i < env.length) (h : Ret (A env S) fun zs S1 => Exc (r 0 zs S1) n ns xs fun S2 => Ret (post i (hm ns xs (env.set i .un) S2)) fun fl S3 => match fl with | .nx e => Ret (s2 e S3) QF | f => QF f S3) : Ret (seqS (tryM tbl i r A hm) s2 env S) QF := w_seq (by
  obtain ⟨zs, S1, e, S2, e2, q⟩ := h
  unfold tryM
  rw [e]
  dsimp only
  rw [e2]
  dsimp only
  rw [ht]
  dsimp only
  rw [if_pos hi]
  exact q)
theorem w_parVO (h : Ret (a env S) fun x S1 => Ret (b env S1) fun y S2 => QF (.nx ((env.set i (.v x)).set j (.ow y))) S2) : Ret (parVO i j a b env S) QF := h.bind fun x S1 h => h.bind fun y S2 h => ⟨_, _, rfl, h⟩
/-- a comprehension of tests, known -/
theorem comp_bools {f : TF} {te : EM} {T : Type} (enc : T → Vl) (p : T → Bool) {QA : List Vl → Sto → Prop} (l : List T) (h : ∀ t ∈ l, ∃ env1, f (enc t) env = some env1 ∧ Ret (te env1 S) fun y S1 => y = .bl (p t) ∧ S1 = S) (q : QA ((l.map p).map .bl) S) : Ret (compL f yesT te env (l.map enc) S) QA := by
  refine comp_pure enc (fun t => .bl (p t)) l h ?_
  rw [List.map_map] at q
  exact q
theorem bools_map : ∀ l : List Bool, bools (l.map .bl) = some l
  | [] => rfl
  | b :: l => by
    rw [List.map_cons, bools, bools_map l]
    rfl
theorem f_allB {l : List Bool} : allF S [.lst (l.map .bl)] = some (.bl (l.all id)) := by
  show (bools (l.map .bl)).map (fun bs => Vl.bl (bs.all id)) = _
  rw [bools_map]
  rfl
end
end Dm
namespace Dm
open PySem PySem.Spec L2
theorem comp_bv {f : TF} {te : EM} {env : List Sv} {S : Sto} (p : Vl → Bool) {QA : List Vl → Sto → Prop} (l : List Vl) (h : ∀ t ∈ l, ∃ env1, f t env = some env1 ∧ Ret (te env1 S) fun y S1 => y = .bl (p t) ∧ S1 = S) (q : QA ((l.map p).map .bl) S) : Ret (compL f yesT te env l S) QA := by
  have := comp_bools (f := f) (te := te) (env := env) (S := S) (fun x : Vl => x) p (QA := QA) l h q
  rwa [List.map_id'] at this
theorem comp_two {f : TF} {te : EM} {env : List Sv} {S : Sto} {a b ya yb : Vl} {QA : List Vl → Sto → Prop} (h1 : ∃ env1, f a env = some env1 ∧ Ret (te env1 S) fun y S1 => y = ya ∧ S1 = S) (h2 : ∃ env1, f b env = some env1 ∧ Ret (te env1 S) fun y S1 => y = yb ∧ S1 = S) (q : QA [ya, yb] S) : Ret (compL f yesT te env [a, b] S) QA :=
  comp_pure (fun t : Bool => if t then a else b) (fun t => if t then ya else yb) [true, false] (fun t _ => by cases t; exact h2; exact h1) q
theorem w_loop1 {f : TF} {b : SM} {x : Vl} {xs : List Vl} {env env1 : List Sv} {S : Sto} {v : Vl} {QF : Fl → Sto → Prop} (e : f x env = some env1) (h : Ret (b env1 S) fun fl S1 => fl = .rt v ∧ QF (.rt v) S1) : Ret (loopS f b (x :: xs) env S) QF := by
  unfold loopS
  rw [e]
  refine h.bind fun fl S1 ⟨hf, hq⟩ => ?_
  subst hf
  exact ⟨_, _, rfl, hq⟩
end Dm

set_option Elab.async false
set_option linter.all false
set_option maxRecDepth 100000
set_option autoImplicit false
set_option maxHeartbeats 1000000
/-! DmU: what a call hands out in new shared objects, taken by value; own objects shared; {k: v}; d[k] = v of an own dict. -/
namespace Dm
open PySem PySem.Spec L2
mutual
/-- all references lie below n -/
def rfB (n : Nat) : Vl → Bool
  | .non => true
  | .bl _ => true
  | .int _ => true
  | .str _ => true
  | .scr _ => true
  | .ftp xs => rfBs n xs
  | .tab _ _ => true
  | .exn _ _ xs => rfBs n xs
  | .fdk _ xs => rfBs n xs
  | .fdt _ xs => rfBs n xs
  | .ref k => decide (k < n)
  | .tup xs => rfBs n xs
  | .lst xs => rfBs n xs
  | .dk _ xs => rfBs n xs
  | .dt _ xs => rfBs n xs
  | .ins _ _ xs => rfBs n xs
def rfBs (n : Nat) : List Vl → Bool
  | [] => true
  | x :: xs => rfB n x && rfBs n xs
end
section
variable {K : PySem.W.Frag} {cl : Cl} {B B' : Addr → Prop} {μ μ' : List Addr} {H : Hp} {n : Nat}
theorem TabC.cut (hB : ∀ a, B' a → B a) {q : Str} {ps : Array Value} (h : TabC B H q ps) : TabC B' H q ps := ⟨h.1, fun pos cv hc => by
  obtain ⟨c, e1, e2, e3⟩ := h.2 pos cv hc
  exact ⟨c, e1, e2, fun z => e3 (hB c z)⟩⟩
mutual
theorem Rep.cut (hB : ∀ a, B' a → B a) (hm : ∀ (k : Nat) (a : Addr), k < n → μ[k]? = some a → μ'[k]? = some a) : ∀ {x : Vl} {v : V}, rfB n x = true → Rep K cl B μ H x v → Rep K cl B' μ' H x v
  | _, _, _, .non => .non
  | _, _, _, .bl b => .bl b
  | _, _, _, .int i => .int i
  | _, _, _, .str x => .str x
  | _, _, h, .tup e n r => .tup e (fun z => n (hB _ z)) (Reps.cut hB hm (by simpa [rfB] using h) r)
  | _, _, h, .lst e n r => .lst e (fun z => n (hB _ z)) (Reps.cut hB hm (by simpa [rfB] using h) r)
  | _, _, _, .scr h => .scr (h.elim (fun h => .inl ⟨h.1, fun z => h.2 (hB _ z)⟩) .inr)
  | _, _, h, .ftp e d n r => .ftp e d (fun z => n (hB _ z)) (Reps.cut hB hm (by simpa [rfB] using h) r)
  | _, _, h, .dk e n q r => .dk e (fun z => n (hB _ z)) q (Reps.cut hB hm (by simpa [rfB] using h) r)
  | _, _, h, .dt e n q r => .dt e (fun z => n (hB _ z)) q (Reps.cut hB hm (by simpa [rfB] using h) r)
  | _, _, h, .ins e n q r => .ins e (fun z => n (hB _ z)) q (Reps.cut hB hm (by simpa [rfB] using h) r)
  | _, _, h, .ref e => .ref (hm _ _ (by simpa [rfB] using h) e)
  | _, _, _, .tab g e n t => .tab g e (fun z => n (hB _ z)) (t.cut hB)
  | _, _, h, .exn e n e2 n2 q r => .exn e (fun z => n (hB _ z)) e2 (fun z => n2 (hB _ z)) q (Reps.cut hB hm (by simpa [rfB] using h) r)
  | _, _, h, .fdk e n q r => .fdk e (fun z => n (hB _ z)) q (Reps.cut hB hm (by simpa [rfB] using h) r)
  | _, _, h, .fdt e n q r => .fdt e (fun z => n (hB _ z)) q (Reps.cut hB hm (by simpa [rfB] using h) r)
  | _, _, _, .exz e n => .exz e (fun z => n (hB _ z))
theorem Reps.cut (hB : ∀ a, B' a → B a) (hm : ∀ (k : Nat) (a : Addr), k < n → μ[k]? = some a → μ'[k]? = some a) : ∀ {xs : List Vl} {vs : List V}, rfBs n xs = true → Reps K cl B μ H xs vs → Reps K cl B' μ' H xs vs
  | _, _, _, .nil => .nil
  | _, _, h, .cons r t => by
    simp only [rfBs, Bool.and_eq_true] at h
    exact .cons (Rep.cut hB hm h.1 r) (Reps.cut hB hm h.2 t)
end
theorem At.cut (hB : ∀ a, B' a → B a) (hm : ∀ (k : Nat) (a : Addr), k < n → μ[k]? = some a → μ'[k]? = some a) {a : Addr} {x : Vl} (h : rfB n x = true) (r : At K cl B μ H a x) : At K cl B' μ' H a x := by
  cases r with
  | lst e r => exact .lst e (r.cut hB hm (by simpa [rfB] using h))
  | dk e q r => exact .dk e q (r.cut hB hm (by simpa [rfB] using h))
  | dt e q r => exact .dt e q (r.cut hB hm (by simpa [rfB] using h))
  | ins e q r => exact .ins e q (r.cut hB hm (by simpa [rfB] using h))
  | tab g e t => exact .tab g e (t.cut hB)
end
def fz1 (n : Nat) (T : Sto) (x : Vl) : Option Vl := match x with
  | .ref k => if k < n then some (.ref k) else T[k - n]?
  | x => if rfB n x = true then some x else none
def fzs (n : Nat) (T : Sto) : List Vl → Option (List Vl)
  | [] => some []
  | x :: xs => (fz1 n T x).bind fun y => (fzs n T xs).bind fun ys => some (y :: ys)
def fzV (n : Nat) (T : Sto) (x : Vl) : Option Vl := match x with
  | .tup xs => (fzs n T xs).map .tup
  | x => fz1 n T x
/-- new shared objects that are handed out become plain values -/
def popM (m : EM) : EM := fun env S => match m env S with
  | .ok x S1 => if S1.all (rfB S.length) = true then (match fzV S.length (S1.drop S.length) x with
    | some y => .ok y (S1.take S.length)
    | none => .bad) else .bad
  | .exc c ns xs S1 => .exc c ns xs S1
  | .bad => .bad
section
variable {K : PySem.W.Frag} {cl : Cl} {V0 : Addr → Prop} {μ μ1 : List Addr} {S1 : Sto} {H1 : Hp}
theorem fz1_rep (s1 : Sim K cl V0 μ1 S1 H1) (hp : ∀ (k : Nat) (a : Addr), μ[k]? = some a → μ1[k]? = some a) (ha : S1.all (rfB μ.length) = true) {x y : Vl} {v : V} (h : fz1 μ.length (S1.drop μ.length) x = some y) (r : Rep K cl (Bn V0 μ1) μ1 H1 x v) :
    Rep K cl (Bn V0 μ) μ H1 y v := by
  have hB : ∀ a, Bn V0 μ a → Bn V0 μ1 a := fun a z => z.elim (fun z => by
    obtain ⟨k, hk⟩ := List.getElem?_of_mem z
    exact .inl (List.mem_of_getElem? (hp k a hk))) .inr
  have hm : ∀ (k : Nat) (a : Addr), k < μ.length → μ1[k]? = some a → μ[k]? = some a := fun k a hk e => by
    have := hp k _ (List.getElem?_eq_getElem hk)
    rw [e] at this
    cases this
    exact List.getElem?_eq_getElem hk
  have plain : rfB μ.length x = true → some x = some y → Rep K cl (Bn V0 μ) μ H1 y v := fun h1 h2 => by
    cases h2
    exact r.cut hB hm h1
  cases x with
  | ref k =>
    unfold fz1 at h
    dsimp only at h
    split at h
    · rename_i hk
      cases h
      exact r.cut hB hm (by simpa [rfB] using hk)
    · rename_i hk
      rw [List.getElem?_drop, show μ.length + (k - μ.length) = k from by omega] at h
      obtain ⟨a, e1, e2⟩ := s1.obs k y h
      cases r with
      | ref e =>
        rw [e] at e1
        cases e1
        refine (e2.cut hB hm (List.all_eq_true.mp ha y (List.mem_of_getElem? h))).rep fun z => ?_
        rcases z with z | z
        · obtain ⟨j, hj⟩ := List.getElem?_of_mem z
          have hjl := (List.getElem?_eq_some_iff.mp hj).1
          have := (List.getElem?_inj (List.getElem?_eq_some_iff.mp e).1 s1.nd).mp (e.trans (hp j a hj).symm)
          omega
        · exact s1.dis a (List.mem_of_getElem? e) z
  | _ =>
    unfold fz1 at h
    dsimp only at h
    split at h
    · rename_i h1
      exact plain h1 h
    · cases h
theorem fzs_rep (s1 : Sim K cl V0 μ1 S1 H1) (hp : ∀ (k : Nat) (a : Addr), μ[k]? = some a → μ1[k]? = some a) (ha : S1.all (rfB μ.length) = true) : ∀ {xs ys : List Vl} {vs : List V}, fzs μ.length (S1.drop μ.length) xs = some ys → Reps K cl (Bn V0 μ1) μ1 H1 xs vs →
    Reps K cl (Bn V0 μ) μ H1 ys vs
  | [], ys, vs, h, r => by
    cases h
    cases r
    exact .nil
  | x :: xs, ys, vs, h, r => by
    unfold fzs at h
    cases e1 : fz1 μ.length (S1.drop μ.length) x with
    | none => rw [e1] at h; cases h
    | some y =>
      cases e2 : fzs μ.length (S1.drop μ.length) xs with
      | none => rw [e1, e2] at h; cases h
      | some zs =>
        rw [e1, e2] at h
        cases h
        cases r with
        | cons r t => exact .cons (fz1_rep s1 hp ha e1 r) (fzs_rep s1 hp ha e2 t)
theorem fzV_rep (s1 : Sim K cl V0 μ1 S1 H1) (hp : ∀ (k : Nat) (a : Addr), μ[k]? = some a → μ1[k]? = some a) (ha : S1.all (rfB μ.length) = true) {x y : Vl} {v : V} (h : fzV μ.length (S1.drop μ.length) x = some y) (r : Rep K cl (Bn V0 μ1) μ1 H1 x v) :
    Rep K cl (Bn V0 μ) μ H1 y v := by
  cases x with
  | tup xs =>
    unfold fzV at h
    dsimp only at h
    cases e : fzs μ.length (S1.drop μ.length) xs with
    | none => rw [e] at h; cases h
    | some ys =>
      rw [e] at h
      cases h
      cases r with
      | tup e1 n1 r1 =>
        refine .tup e1 (fun z => n1 (z.elim (fun z => ?_) .inr)) (fzs_rep s1 hp ha e r1)
        obtain ⟨k, hk⟩ := List.getElem?_of_mem z
        exact .inl (List.mem_of_getElem? (hp k _ hk))
  | _ =>
    unfold fzV at h
    exact fz1_rep s1 hp ha h r
end
section
variable {X : Cx} {cl : Cl} {E : XK} {e : Expr} {m : EM} {i : Nat} {sts : List Stmt} {b : SM}
theorem de_pop (h : PE X e (tD X.K cl E m)) : PE X e (tD X.K cl E (popM m)) := h.imp fun σ H Q ⟨W, ω, μ, S, env, rl, q⟩ => by
  refine ⟨W, ω, μ, S, env, rl, ?_⟩
  unfold popM at q
  cases hm : m env S with
  | bad => rw [hm] at q; exact q.elim
  | exc c ns xs S1 => rw [hm] at q; exact q
  | ok x S1 =>
    rw [hm] at q
    dsimp only at q
    split at q
    · rename_i ha
      rw [← rl.sim.len] at q ha
      cases hf : fzV μ.length (S1.drop μ.length) x with
      | none => rw [hf] at q; exact q.elim
      | some y =>
        rw [hf] at q
        intro μ1 H1 s1 e1 v rv
        have hl : μ.length ≤ μ1.length := by
          cases hk : μ.length with
          | zero => exact Nat.zero_le _
          | succ k =>
            have := e1.pre k _ (List.getElem?_eq_getElem (by omega : k < μ.length))
            have := (List.getElem?_eq_some_iff.mp this).1
            omega
        have hB : ∀ a, Bn (Wo W ω) μ a → Bn (Wo W ω) μ1 a := fun a z => z.elim (fun z => by
          obtain ⟨k, hk⟩ := List.getElem?_of_mem z
          exact .inl (List.mem_of_getElem? (e1.pre k a hk))) .inr
        have hm' : ∀ (k : Nat) (a : Addr), k < μ.length → μ1[k]? = some a → μ[k]? = some a := fun k a hk e => by
          have := e1.pre k _ (List.getElem?_eq_getElem hk)
          rw [e] at this
          cases this
          exact List.getElem?_eq_getElem hk
        refine q μ H1 ⟨?_, rl.sim.nd, rl.sim.dis, s1.trn, fun k y hy => ?_⟩ ⟨e1.keep, e1.dom, fun _ _ z => z, fun _ z => .inl z⟩ v (fzV_rep s1 e1.pre ha hf rv)
        · rw [List.length_take, ← s1.len]
          omega
        · have hk : k < μ.length := by
            have := (List.getElem?_eq_some_iff.mp hy).1
            rw [List.length_take] at this
            omega
          rw [List.getElem?_take_of_lt hk] at hy
          obtain ⟨a, g1, g2⟩ := s1.obs k y hy
          exact ⟨a, hm' k a hk g1, g2.cut hB hm' (List.all_eq_true.mp ha y (List.mem_of_getElem? hy))⟩
    · exact q.elim
/-- a new object, shared at once -/
def newR (m : EM) : EM := fun env S => (m env S).bind fun x S1 => .ok (.ref S1.length) (S1 ++ [x])
theorem de_newR (h : PE X e (tN X.K cl E m)) : PE X e (tD X.K cl E (newR m)) := h.imp fun σ H Q ⟨W, ω, μ, S, env, rl, q⟩ => by
  refine ⟨W, ω, μ, S, env, rl, ?_⟩
  unfold newR at q
  cases hm : m env S with
  | bad => rw [hm] at q; exact q.elim
  | exc c ns xs S1 => rw [hm] at q; exact q
  | ok x S1 =>
    rw [hm] at q
    intro μ1 H1 s1 e1 a ha sb at_
    have na : ¬ Wo W ω a := fun z => rl.sim.trk a z ha
    refine q (μ1 ++ [a]) H1 (sb.pushNew na at_) ⟨e1.keep, e1.dom, fun n b z => ?_, fun b z => ?_⟩ (.ref a) (.ref ?_)
    · rw [List.getElem?_append_left (List.getElem?_eq_some_iff.mp (e1.pre n b z)).1]; exact e1.pre n b z
    · rcases List.mem_append.mp z with z | z
      · exact e1.new b z
      · have : b = a := by simpa using z
        subst this
        exact .inr ha
    · rw [← sb.len, List.getElem?_append_right (Nat.le_refl _), Nat.sub_self] <;> rfl
/-- an own object is shared from here on (no statement) -/
def shrS (i : Nat) : SM := fun env S => match env[i]? with
  | some (.ow x) => .ok (.nx (env.set i (.v (.ref S.length)))) (S ++ [x])
  | _ => .bad
theorem Rl.share {K : PySem.W.Frag} {W : Addr → Prop} {ω : List (Option Addr)} {μ : List Addr} {S : Sto} {env : List Sv} {σ : St} {H : Hp} {x : Vl} (rl : Rl K cl W ω μ S env σ H) (he : env[i]? = some (.ow x)) :
    ∃ a, some a ∈ ω ∧ Rl K cl W (ω.set i none) (μ ++ [a]) (S ++ [x]) (env.set i (.v (.ref S.length))) σ H := by
  obtain ⟨o, s, h1, h2, a, h3, h4, h5⟩ := rl.slot he
  subst h4
  subst h3
  have ham := List.mem_of_getElem? h1
  refine ⟨a, ham, ?_⟩
  have sub : ∀ b, Wa (Wo W (ω.set i none)) a b → Wo W ω b := fun b z => z.elim (fun z => z.elim .inl fun z => .inr (mem_set_none z)) fun z => .inr (by rw [z]; exact ham)
  have na : ¬ Wo W (ω.set i none) a := fun z => by
    rcases z with z | z
    · exact rl.ow a ham z
    · obtain ⟨j, hj⟩ := List.getElem?_of_mem z
      by_cases hji : j = i
      · subst hji
        rw [List.getElem?_set_self (by have := (List.getElem?_eq_some_iff.mp hj).1; simpa using this)] at hj
        cases hj
      · rw [List.getElem?_set_ne (Ne.symm hji)] at hj
        exact hji (rl.od j i a hj h1)
  have sm := (rl.sim.weak sub).pushNew na (h5.mono (Kp.weak sub) fun _ q => q)
  have kp : Kp (Bn (Wo W ω) μ) (Bn (Wo W (ω.set i none)) (μ ++ [a])) μ (μ ++ [a]) H H := ⟨fun b o q n => ⟨q, fun z => by
      rcases z with z | z
      · rcases List.mem_append.mp z with z | z
        · exact n (.inl z)
        · have : b = a := by simpa using z
          subst this
          exact n (.inr (.inr ham))
      · exact n (.inr (z.elim .inl fun z => .inr (mem_set_none z)))⟩, fun n b q => by rw [List.getElem?_append_left (List.getElem?_eq_some_iff.mp q).1]; exact q⟩
  refine ⟨sm, by simp [rl.l1], by simp [rl.l2], fun j e o s g1 g2 g3 => ?_, fun j k b g1 g2 => ?_, fun b z => rl.ow b (mem_set_none z)⟩
  · by_cases hj : j = i
    · subst hj
      rw [List.getElem?_set_self (by have := (List.getElem?_eq_some_iff.mp g1).1; simpa using this)] at g1
      rw [List.getElem?_set_self (by have := (List.getElem?_eq_some_iff.mp g2).1; simpa using this)] at g2
      cases g1; cases g2
      rw [h2] at g3; cases g3
      refine ⟨rfl, _, rfl, .ref ?_⟩
      rw [← rl.sim.len, List.getElem?_append_right (Nat.le_refl _), Nat.sub_self] <;> rfl
    · rw [List.getElem?_set_ne (Ne.symm hj)] at g1 g2
      exact (rl.at_ j e o s g1 g2 g3).mono kp fun _ _ _ q => q
  · have f : ∀ l : Nat, (ω.set i none)[l]? = some (some b) → ω[l]? = some (some b) := fun l q => by
      by_cases hl : l = i
      · subst hl
        rw [List.getElem?_set_self (by have := (List.getElem?_eq_some_iff.mp q).1; simpa using this)] at q
        cases q
      · rw [List.getElem?_set_ne (Ne.symm hl)] at q; exact q
    exact rl.od j k b (f j g1) (f k g2)
theorem ds_shr (h : PSs X sts (tS X.K cl E b)) : PSs X sts (tS X.K cl E (seqS (shrS i) b)) := h.imp fun D σ H ⟨W, ω, μ, S, env, rl, q⟩ => by
  unfold seqS shrS at q
  cases he : env[i]? with
  | none => rw [he] at q; exact q.elim
  | some z =>
    rw [he] at q
    cases z with
    | un => exact q.elim
    | v x => exact q.elim
    | sf a x => exact q.elim
    | ow x =>
      obtain ⟨a, ha, r⟩ := rl.share he
      refine ⟨W, _, _, _, _, r, SatF.step (r := b _ (S ++ [x])) q ⟨fun _ _ z _ _ => z, fun _ z => z, fun n c z => ?_, fun c z => ?_⟩⟩
      · rw [List.getElem?_append_left (List.getElem?_eq_some_iff.mp z).1]; exact z
      · rcases z with z | z
        · rcases List.mem_append.mp z with z | z
          · exact .inl z
          · have : c = a := by simpa using z
            subst this
            exact .inr (.inl ha)
        · exact .inr (.inl (mem_set_none z))
end
/-! ### {k: v} -/
def dk1 (mk mv : EM) : EM := fun env S => (mk env S).bind fun k S1 => (mv env S1).bind fun v S2 => match keyV k with
  | some q => .ok (.dk [q] [v]) S2
  | none => .bad
theorem keyV_kV {K : PySem.W.Frag} {cl : Cl} {B : Addr → Prop} {μ : List Addr} {H : Hp} {x : Vl} {v : V} {q : Key} (h : keyV x = some q) (r : Rep K cl B μ H x v) : v = kV q := by
  cases x with
  | int i => cases h; cases r; rfl
  | str z => cases h; cases r; rfl
  | _ => cases h
section
variable {X : Cx} {cl : Cl} {E : XK} {ek ev : Expr} {mk mv : EM} {i : Nat} {st : Stmt} {pos : Pos}
theorem dn_dk1 (hk : PE X ek (tD X.K cl E mk)) (hv : PE X ev (tD X.K cl E mv)) : PE X (.Dict [some ek] [ev] pos) (tN X.K cl E (dk1 mk mv)) :=
  (pe_disp (pps_cons hk hv pps_nil) rfl rfl (by simp) (by simp)).imp fun σ H Q ⟨W, ω, μ, S, env, rl, q⟩ p hp => by
  have sub : ∀ b, Wo W ω b → Wo (Wa W p) ω b := fun b z => z.elim (fun z => .inl (.inl z)) .inr
  have sub2 : ∀ b, Wo (Wa W p) ω b → Wa (Wo W ω) p b := fun b z => z.elim (fun z => z.elim (fun z => .inl (.inl z)) .inr) fun z => .inl (.inr z)
  have sub3 : ∀ b, Wa (Wo W ω) p b → Wo (Wa W p) ω b := fun b z => z.elim (fun z => z.elim (fun z => .inl (.inl z)) .inr) fun z => .inl (.inr z)
  have np : p ∉ μ := fun z => rl.sim.tracked (.inl z) hp
  have rl1 : Rl X.K cl (Wa W p) ω μ S env σ (upd H p (.dK [])) := rl.banNew (Ext.fresh hp) hp (rl.sim.freshBan hp np)
  have e0 : Ext μ H μ (upd H p (.dK [])) := Ext.fresh hp
  refine ⟨Wa W p, ω, μ, S, env, rl1, ?_⟩
  unfold dk1 at q
  cases h1 : mk env S with
  | bad => rw [h1] at q; exact q.elim
  | exc c ns xs S1 =>
    rw [h1] at q
    intro μ' H' d s1 e1 ⟨fs, x1, x2, x3⟩
    exact q μ' H' d (s1.weak sub) (e0.trans e1) ⟨fs, x1, x2, x3.mono (Kp.weak sub)⟩
  | ok k S1 =>
    rw [h1] at q
    dsimp only [Res.bind] at q
    intro μ1 H1 s1 e1 kv rk
    refine ⟨Wa W p, ω, μ1, S1, env, rl1.ext e1 s1, ?_⟩
    cases h2 : mv env S1 with
    | bad => rw [h2] at q; exact q.elim
    | exc c ns xs S2 =>
      rw [h2] at q
      intro μ' H' d s2 e2 ⟨fs, x1, x2, x3⟩
      exact q μ' H' d (s2.weak sub) ((e0.trans e1).trans e2) ⟨fs, x1, x2, x3.mono (Kp.weak sub)⟩
    | ok v S2 =>
      rw [h2] at q
      dsimp only [Res.bind] at q
      intro μ2 H2 s2 e2 vv rv
      cases h3 : keyV k with
      | none => rw [h3] at q; exact q.elim
      | some kq =>
        rw [h3] at q
        have hb1 : p ∉ μ1 := fun z => s1.dis p z (.inl (.inr rfl))
        have hb2 : p ∉ μ2 := fun z => s2.dis p z (.inl (.inr rfl))
        have g1 : H1 p = some (.dK []) := e1.keep p _ upd_same np
        have g2 : H2 p = some (.dK []) := e2.keep p _ g1 hb1
        obtain ⟨s3, k3⟩ := s2.updW (D := p) (o := .dK [(kq, vv)]) (.inl (.inr rfl))
        have s4 : Sim X.K cl (Wa (Wo W ω) p) μ2 S2 (upd H2 p (.dK [(kq, vv)])) := s3.weak sub3
        refine ⟨g2, [(kq, vv)], by rw [keyV_kV h3 rk]; rfl, by simp, ?_⟩
        refine q μ2 _ (s3.weak sub) ?_ p hp s4 (.dk upd_same rfl (.cons ((rv.mono k3).mono (Kp.weak sub3)) .nil))
        have e3 := (e0.trans e1).trans e2
        refine ⟨fun b o h n => ?_, fun b h => ?_, e3.pre, e3.new⟩
        · rw [upd_ne (ne_of_none h hp)]
          exact e3.keep b o h n
        · have := e3.dom b h
          unfold L2.upd
          split
          · simp
          · exact this
/-! ### d[k] = v, d an own dict -/
def setD (i : Nat) (mi mv : EM) : SM := fun env S => match env[i]? with
  | some (.ow (.dk ks xs)) => (mv env S).bind fun v S1 => (mi env S1).bind fun k S2 => (match keyV k with
    | some q => if ks.length < 16777216 then .ok (.nx (env.set i (.ow (.dk (putV ks xs q v).1 (putV ks xs q v).2)))) S2 else .bad
    | none => .bad)
  | _ => .bad
theorem own_dk {K : PySem.W.Frag} {W : Addr → Prop} {ω : List (Option Addr)} {μ : List Addr} {S : Sto} {env : List Sv} {σ : St} {H : Hp} {ks : List Key} {xs : List Vl} (rl : Rl K cl W ω μ S env σ H) (he : env[i]? = some (.ow (.dk ks xs))) :
    ∃ a kvs, ω[i]? = some (some a) ∧ σ[i]? = some (some (.ref a)) ∧ H a = some (.dK kvs) ∧ kvs.map (·.1) = ks ∧ Reps K cl (Bn (Wo W ω) μ) μ H xs (kvs.map (·.2)) := by
  obtain ⟨o, s, h1, h2, a, h3, h4, h5⟩ := rl.slot he
  subst h4
  subst h3
  cases h5 with
  | dk g1 g2 g3 => exact ⟨a, _, h1, h2, g1, g2, g3⟩
theorem ds_setD {mi : EM} {tv ti : TE} (h : PS X st (tAsg tv (gSub (tVar i) ti rSetD))) (hv : ∀ σ H Q, tD X.K cl E mv σ H Q → tv σ H Q) (hi : ∀ σ H Q, tD X.K cl E mi σ H Q → ti σ H Q) : PS X st (tS X.K cl E (setD i mi mv)) := h.imp fun D σ H ⟨W, ω, μ, S, env, rl, q⟩ => by
  unfold setD at q
  split at q
  · rename_i ks xs he
    refine hv _ _ _ ⟨W, ω, μ, S, env, rl, q.ofG.mono fun v S1 μ1 H1 _ s1 e1 q1 vv rv => ?_⟩
    have r1 := rl.ext e1 s1
    obtain ⟨a, _, h1, h2, _, _, _⟩ := own_dk r1 he
    refine ⟨.ref a, h2, hi _ _ _ ⟨W, ω, μ1, S1, env, r1, q1.ofG.mono fun k S2 μ2 H2 _ s2 e2 q2 kv rk => ?_⟩⟩
    have r2 := r1.ext e2 s2
    obtain ⟨a', kvs, g1, g2, g3, g4, g5⟩ := own_dk r2 he
    rw [h1] at g1
    cases g1
    cases hk : keyV k with
    | none => rw [hk] at q2; exact q2.elim
    | some kq =>
      rw [hk] at q2
      dsimp only at q2
      split at q2
      · rename_i hl
        subst g4
        obtain ⟨p1, p2⟩ := putV_ok (k := kq) (rv.mono e2.kp) g5
        obtain ⟨r3, e3⟩ := r2.upd he h1 (y := .dk (putV (kvs.map (·.1)) xs kq v).1 (putV (kvs.map (·.1)) xs kq v).2) (o := .dK (putK kvs kq vv)) (.dk p1 p2)
        have hlen : kvs.length < sizeLine := by
          rw [sizeLine_eq, ← List.length_map (f := (·.1))]
          exact hl
        refine ⟨a, _, rfl, ?_, q2 ω μ2 σ _ r3 e3⟩
        rw [keyV_kV hk rk]
        exact DPut.k g3 hlen
      · exact q2.elim
  · exact q.elim
end
end Dm

set_option Elab.async false
set_option linter.all false
set_option maxRecDepth 100000
set_option autoImplicit false
set_option maxHeartbeats 1000000
/-! DmW: a tuple that tuple(list) has made is known to have no dict of its own (.ftp); dict(..) of such a tuple. -/
namespace Dm
open PySem PySem.Spec PyProof.Rows L2
section
variable {X : Cx} {cl : Cl}
def rTupZ (K : PySem.W.Frag) : List V → Hp → VK → Prop := fun xs H Q => (∃ p ys, xs = [.ref p] ∧ SqL K H p ys ∧ ∀ (l : Addr) (o : Obj), H l = none → o.dict = none → Q (.ref l) (upd H l (.frz o (.tup ys)))) ∨ ∃ p ys, xs = [.ref p] ∧ SqT K H p ys ∧ Q (.ref p) H
theorem call_tupZ : CallR X (.type "tuple") (rTupZ X.K) := by
  intro pins s σ H xs us Q I r h
  rcases h with ⟨p, ys, rfl, hq, q⟩ | ⟨p, ys, rfl, hq, q⟩
  · obtain ⟨u, rfl, rx⟩ := vals1 r
    cases rx
    obtain ⟨its, r1, pl, hz⟩ := I.list hq
    have hlen := r1.length
    refine call_tuple_list pl.isList (fun h' kp => ?_) (by simp only [List.size_toArray] <;> omega)
    have J := I.kept (t' := s.toks) kp
    refine ⟨.ref h'.objs.size, _, J.laid (t' := s.toks) (o := .frz _ (.tup ys)) (fun b o e => Heap.get?_push_of_some _ e) (Nat.le_refl _) ⟨Heap.get?_push_size _ rfl, hz, its, r1, IsTup.new _ _⟩, rfl, q _ _ (J.hok.fresh (Nat.le_refl _)) rfl⟩
  · obtain ⟨u, rfl, rx⟩ := vals1 r
    cases rx
    obtain ⟨its, r1, pl, hz⟩ := I.tuple hq
    exact call_tuple_same pl ⟨.ref p, H, I, rfl, q⟩
def ftpF : FA := fun S xs => match xs with
  | [x] => (match look S x with
    | .lst ys => some (.ftp ys)
    | .ftp ys => some (.ftp ys)
    | _ => none)
  | _ => none
theorem rep_newF {K : PySem.W.Frag} {W : Addr → Prop} {ω : List (Option Addr)} {μ : List Addr} {S : Sto} {H : Hp} {l : Addr} {xs : List Vl} {vs : List V} {o : Obj} (s : Sim K cl (Wo W ω) μ S H) (h : H l = none) (hd : o.dict = none) (r : Reps K cl (Bn (Wo W ω) μ) μ H xs vs) : Rep K cl (Bn (Wo W ω) μ) μ (upd H l (.frz o (.tup vs))) (.ftp xs) (.ref l) :=
  .ftp upd_same hd (fun z => s.tracked z h) (r.mono (kp_new h))
theorem s_ftp : OpA X cl (rTupZ X.K) ftpF := fun W ω μ S H xs z vs Q s r h k => by
  unfold ftpF at h
  split at h
  · obtain ⟨v, rfl, rv⟩ := repsL1 r
    have rr := repR_of s rv
    revert h rr
    generalize look S _ = x'
    intro h rr
    cases x' with
    | lst ys =>
      cases h
      obtain ⟨p, ws, rfl, h1, h2⟩ := repR_lst rr
      exact .inl ⟨p, ws, rfl, .of h1, fun l o hl hd => k _ _ (s.fresh hl) (Ext.fresh hl) (rep_newF s hl hd h2)⟩
    | ftp ys =>
      cases h
      rcases rr with rr | ⟨a, e, rr⟩
      · cases rr with
        | ftp h1 h0 h2 h3 => exact .inr ⟨_, _, rfl, .inl (.inr ⟨_, h1⟩), k H _ s Ext.refl (.ftp h1 h0 h2 h3)⟩
      · cases rr
    | _ => cases h
  · cases h
/-! ### dict(tuple) -/
def rDictT (K : PySem.W.Frag) : List V → Hp → VK → Prop := fun xs H Q => ∃ (a : Addr) (o : Obj) (ps : List Addr) (kvs : List (Key × V)), xs = [.ref a] ∧ H a = some (.frz o (.tup (ps.map V.ref))) ∧ o.dict = none ∧ Paired (fun p kv => SqT K H p [kV kv.1, kv.2]) ps kvs ∧
    ∀ p, H p = none → Q (.ref p) (upd H p (.dK (mergeK [] kvs)))
theorem call_dictT (hcalm : X.calm = true) : CallR X (.type "dict") (rDictT X.K) := by
  intro pins s σ H xs us Q I r q
  obtain ⟨a, o, ps, kvs, ex, ho, hd, hp, q⟩ := q
  subst ex
  obtain ⟨u, eu, rx⟩ := vals1 r
  subst eu
  cases rx
  obtain ⟨g0, hz, its, rv, o', g1, hc, n, hdat⟩ := (show ObjOk X.prog X.w H s.heap a (.frz o (.tup (ps.map V.ref))) from I.hok a _ ho)
  rw [g0] at g1
  cases g1
  have ei := refs_at rv
  subst ei
  obtain ⟨prs, rel, hl, hpr⟩ := L2.pairs_of I hp
  rw [List.length_map] at hz
  have key : ∀ (j : Nat) (q : Key × Value), prs[j]? = some q → ∃ (b : Addr) (u : Value), ps[j]? = some b ∧ IsTup s.heap b #[u, q.2] ∧ keyIs q.1 u = true := hpr
  -- the pairs as concrete values
  have mk : ∀ (ps : List Addr) (prs : List (Key × Value)), prs.length = ps.length → (∀ (j : Nat) (q : Key × Value), prs[j]? = some q → ∃ (b : Addr) (u : Value), ps[j]? = some b ∧ IsTup s.heap b #[u, q.2] ∧ keyIs q.1 u = true) →
      ∃ cs : List (Value × Value), cs.length = ps.length ∧ (∀ (j : Nat) (k v : Value), cs[j]? = some (k, v) → ∃ b, ps[j]? = some b ∧ IsTup s.heap b #[k, v]) ∧ ∀ (j : Nat) (k v : Value), cs[j]? = some (k, v) → ∃ q, prs[j]? = some (q, v) ∧ keyIs q k = true := by
    intro ps
    induction ps with
    | nil => exact fun prs _ _ => ⟨[], rfl, fun j k v e => by simp at e, fun j k v e => by simp at e⟩
    | cons b ps ih =>
      intro prs hl h
      cases prs with
      | nil => cases hl
      | cons q prs =>
        obtain ⟨cs, c1, c2, c3⟩ := ih prs (by simpa using hl) fun j q' e => h (j + 1) q' (by simpa using e)
        obtain ⟨b', u, e1, e2, e3⟩ := h 0 q rfl
        cases e1
        refine ⟨(u, q.2) :: cs, by simp [c1], fun j k v e => ?_, fun j k v e => ?_⟩
        · cases j with
          | zero => cases e; exact ⟨b, rfl, e2⟩
          | succ j => exact c2 j k v (by simpa using e)
        · cases j with
          | zero => cases e; exact ⟨q.1, rfl, e3⟩
          | succ j => exact c3 j k v (by simpa using e)
  obtain ⟨cs, c1, c2, c3⟩ := mk ps prs hl key
  have P := PairArg.tuple (prog := X.prog) (w := X.w) a (ps.map Value.ref).toArray (fun j => ps.getD j 0) cs
  refine PySem.call_dict_pairs (knd := mixKind X.prog X.w) (kvs := prs) P (I.ok.hd hcalm) ⟨⟨o, n, g0, hc, hd, hdat⟩, by simp [c1], fun j k v e => ?_⟩ ⟨by rw [hl, c1], fun j k v e => c3 j k v e⟩ (by rw [c1]; exact hz) fun h' tk hd' kk => ?_
  · obtain ⟨b, e1, e2⟩ := c2 j k v e
    have e3 : ps.getD j 0 = b := by rw [List.getD_eq_getElem?_getD, e1]; rfl
    dsimp only
    rw [e3]
    exact ⟨by simp [e1], .inl e2⟩
  · have hm : (s.heap.objs.size == sysModules) = false := beq_eq_false_iff_ne.mpr (Nat.ne_of_gt I.big)
    have hlen : (mergeK [] kvs).length ≤ sizeLine := by
      have := length_mergeK kvs []
      have e := rel.length
      simp only [List.length_nil] at this
      omega
    exact ⟨.ref s.heap.objs.size, _, I.laid (t' := tk) (o := .dK (mergeK [] kvs)) (fun b o e => kk b o (by simp) e) (Nat.le_refl _) ⟨hlen, hm, merged [] prs, KV.merge rel .nil, hd'⟩, rfl, q _ (I.hok.fresh (Nat.le_refl _))⟩
def dictTF : FA := fun S xs => match xs with
  | [x] => (match look S x with
    | .ftp ys => (pairsOf ys).map fun ps => let d := mergeV ps ([], []); .dk d.1 d.2
    | _ => none)
  | _ => none
theorem s_dictT : OpAN X cl (rDictT X.K) dictTF := fun W ω μ S H xs z vs Q s r h k => by
  unfold dictTF at h
  split at h
  · obtain ⟨v, rfl, rv⟩ := repsL1 r
    have rr := repR_of s rv
    revert h rr
    generalize look S _ = x'
    intro h rr
    cases x' with
    | ftp ys =>
      obtain ⟨ps, h1, rfl⟩ := Option.map_eq_some_iff.mp h
      rcases rr with rr | ⟨a, e, rr⟩
      · cases rr with
        | ftp g1 g0 gn g2 =>
          obtain ⟨as, kws, e1, e2, e3, e4⟩ := pairs_rep g2 h1
          subst e1
          obtain ⟨m1, m2⟩ := merge_ok (kvs := []) (d := ([], [])) e3 e4 rfl .nil
          exact ⟨_, _, as, kws, rfl, g1, g0, e2, fun t ht => k t _ ht (.dk m1 m2)⟩
      · cases rr
    | _ => cases h
  · cases h
end
end Dm

set_option Elab.async false
set_option linter.all false
set_option maxRecDepth 100000
set_option autoImplicit false
set_option maxHeartbeats 4000000
/-! printed by gen.py -/
namespace G06
open PySem PySem.Spec PyProof.Rows L2 Dm
abbrev PG : Program := PySem.Challenge.pw_leastattr_k06_whole_trees_and_their_valu
def top (i : Nat) : Stmt := PG.main.body.getD i (.Pass ⟨0, 0, 0, 0⟩)
def clsBody : Stmt → List Stmt
  | .ClassDef (body := b) .. => b
  | _ => []
def mth (i j : Nat) : Stmt := (clsBody (top i)).getD j (.Pass ⟨0, 0, 0, 0⟩)
def clNames : List Str := ["Grammar", "NotTop"]
def cl (K : PySem.W.Frag) : Cl := fun n => He.ga K (clNames.getD n "law")
abbrev cMn : EM := cM .non
abbrev badS : SM := fun _ _ => .bad

theorem b_ValueError : bootBuiltins "ValueError" = some (.type "ValueError") := by decide +kernel
theorem b_isinstance : bootBuiltins "isinstance" = some (.builtin "isinstance") := by decide +kernel
theorem b_len : bootBuiltins "len" = some (.builtin "len") := by decide +kernel
theorem b_int : bootBuiltins "int" = some (.type "int") := by decide +kernel
theorem b_bool : bootBuiltins "bool" = some (.type "bool") := by decide +kernel
theorem b_str : bootBuiltins "str" = some (.type "str") := by decide +kernel
theorem b_tuple : bootBuiltins "tuple" = some (.type "tuple") := by decide +kernel
theorem b_list : bootBuiltins "list" = some (.type "list") := by decide +kernel
theorem b_dict : bootBuiltins "dict" = some (.type "dict") := by decide +kernel
theorem b_all : bootBuiltins "all" = some (.builtin "all") := by decide +kernel
theorem b_any : bootBuiltins "any" = some (.builtin "any") := by decide +kernel
theorem b_sorted : bootBuiltins "sorted" = some (.builtin "sorted") := by decide +kernel
theorem b_sum : bootBuiltins "sum" = some (.builtin "sum") := by decide +kernel
theorem b_abs : bootBuiltins "abs" = some (.builtin "abs") := by decide +kernel
/-! ### _law_draw -/
abbrev s__law_draw : Stmt := top 45
abbrev N__law_draw : List Str := ["_law_well", "_law_many", "_law_found", "_law_number_here"]
abbrev N__law_draw_ps : List Str := ["_law_well", "_law_many"]
def b__law_draw : SM :=
  (seqS (ifS (tv (bin2 gtF (bin2 ixF (varM 0) (cM (.int 0))) (cM (.int 0))))
  (seqS (setS 2 (bin2 modF (cB intF (consA (bin2 ixF (varM 0) (cM (.int 0))) nilA)) (varM 1)))
  (seqS (setR (varM 0) (cM (.int 0)) (bin2 fdivF (bin2 ixF (varM 0) (cM (.int 0))) (varM 1)))
  (retS (varM 2))))
  nilS)
  (seqS (setR (varM 0) (cM (.int 2)) (bin2 addF (bin2 ixF (varM 0) (cM (.int 2))) (cM (.int 1))))
  (seqS (setS 3 (bin2 modF (cB intF (consA (bin2 mulF (bin2 addF (bin2 addF (bin2 ixF (varM 0) (cM (.int 1))) (bin2 mulF (cM (.int 104729)) (bin2 ixF (varM 0) (cM (.int 2))))) (cM (.int 1))) (cM (.int 48271))) nilA)) (cM (.int 2147483647))))
  (seqS (setS 3 (bin2 modF (cB intF (consA (bin2 mulF (varM 3) (bin2 addF (bin2 fdivF (varM 3) (cM (.int 1009))) (cM (.int 69621)))) nilA)) (cM (.int 2147483647))))
  (retS (bin2 modF (cB intF (consA (bin2 modF (cB intF (consA (bin2 mulF (varM 3) (bin2 addF (bin2 fdivF (varM 3) (cM (.int 2003))) (cM (.int 40692)))) nilA)) (cM (.int 2147483399))) nilA)) (varM 1)))))))
def m__law_draw : List Vl → Sto → Res Vl := runM N__law_draw.length b__law_draw
def d__law_draw : He.DefD := ⟨("_law_draw", none), "_law_draw", "_law_draw", defArgs s__law_draw, defBody s__law_draw, defScope s__law_draw, [], []⟩
theorem sc__law_draw : FnScope N__law_draw N__law_draw_ps (defScope s__law_draw) := ⟨rfl, rfl, rfl, by decide +kernel, rfl, by decide +kernel, by decide +kernel⟩
/-! ### _law_one -/
abbrev s__law_one : Stmt := top 46
abbrev N__law_one : List Str := ["_law_well", "_law_some"]
abbrev N__law_one_ps : List Str := ["_law_well", "_law_some"]
def b__law_one : SM :=
  (retS (bin2 ixF (varM 1) (callM m__law_draw (consA (varM 0) (consA (cB lenF (consA (varM 1) nilA)) nilA)))))
def m__law_one : List Vl → Sto → Res Vl := runM N__law_one.length b__law_one
def d__law_one : He.DefD := ⟨("_law_one", none), "_law_one", "_law_one", defArgs s__law_one, defBody s__law_one, defScope s__law_one, [], []⟩
theorem sc__law_one : FnScope N__law_one N__law_one_ps (defScope s__law_one) := ⟨rfl, rfl, rfl, by decide +kernel, rfl, by decide +kernel, by decide +kernel⟩
/-! ### _law_kinds -/
abbrev s__law_kinds : Stmt := top 50
abbrev N__law_kinds : List Str := ["_law_well", "_law_most", "_law_many", "_law_names", "_law_parts", "_law_found", "_law_at"]
abbrev N__law_kinds_ps : List Str := ["_law_well", "_law_most", "_law_many"]
def b__law_kinds : SM :=
  (seqS (par2 3 4 (lstM (consA (cM (.str "zed")) (consA (cM (.str "row")) (consA (cM (.str "a")) (consA (cM (.str "leaf")) (consA (cM (.str "k")) nilA)))))) (lstM (consA (cM (.str "y")) (consA (cM (.str "x")) (consA (cM (.str "n")) nilA)))))
  (seqS (ownS 5 (lstM nilA))
  (seqS (forS (rngI (consA (bin2 addF (cM (.int 1)) (callM m__law_draw (consA (varM 0) (consA (varM 1) nilA)))) nilA)) (tfN 6)
  (appO 5 (tupM (consA (bin2 ixF (varM 3) (varM 6)) (consA (cB tupF (consA (slM (varM 4) oN (oS (bin2 addF (cM (.int 1)) (callM m__law_draw (consA (varM 0) (consA (varM 2) nilA)))))) nilA)) nilA)))))
  (retV 5))))
def m__law_kinds : List Vl → Sto → Res Vl := runM N__law_kinds.length b__law_kinds
def d__law_kinds : He.DefD := ⟨("_law_kinds", none), "_law_kinds", "_law_kinds", defArgs s__law_kinds, defBody s__law_kinds, defScope s__law_kinds, [], []⟩
theorem sc__law_kinds : FnScope N__law_kinds N__law_kinds_ps (defScope s__law_kinds) := ⟨rfl, rfl, rfl, by decide +kernel, rfl, by decide +kernel, by decide +kernel⟩
/-! ### _law_number -/
abbrev s__law_number : Stmt := top 47
abbrev N__law_number : List Str := ["_law_well", "_law_width", "_law_great", "_law_some"]
abbrev N__law_number_ps : List Str := ["_law_well", "_law_width"]
def b__law_number : SM :=
  (seqS (setS 2 (bin2 addF (bin2 mulF (callM m__law_draw (consA (varM 0) (consA (bin2 powF (cM (.int 2)) (cM (.int 31))) nilA))) (bin2 powF (cM (.int 2)) (cM (.int 33)))) (callM m__law_draw (consA (varM 0) (consA (bin2 powF (cM (.int 2)) (cM (.int 33))) nilA)))))
  (seqS (setS 3 (lstM (consA (cM (.int 0)) (consA (cM (.int 1)) (consA (cM (.int 1)) (consA (cM (.int 2)) (consA (cM (.int 3)) (consA (bin2 subF (bin2 shlF (cM (.int 1)) (varM 1)) (cM (.int 1))) (consA (bin2 fdivF (bin2 shlF (cM (.int 1)) (varM 1)) (cM (.int 2))) (consA (varM 2) nilA))))))))))
  (retS (bin2 modF (cB intF (consA (bin2 ixF (varM 3) (callM m__law_draw (consA (varM 0) (consA (cM (.int 8)) nilA)))) nilA)) (bin2 shlF (cM (.int 1)) (varM 1))))))
def m__law_number : List Vl → Sto → Res Vl := runM N__law_number.length b__law_number
def d__law_number : He.DefD := ⟨("_law_number", none), "_law_number", "_law_number", defArgs s__law_number, defBody s__law_number, defScope s__law_number, [], []⟩
theorem sc__law_number : FnScope N__law_number N__law_number_ps (defScope s__law_number) := ⟨rfl, rfl, rfl, by decide +kernel, rfl, by decide +kernel, by decide +kernel⟩
/-! ### _law_sum -/
abbrev s__law_sum : Stmt := top 48
abbrev N__law_sum : List Str := ["_law_well", "_law_width", "_law_sizes", "_law_numbers", "_law_found", "_law_turn", "_law_picks", "_law_size"]
abbrev N__law_sum_ps : List Str := ["_law_well", "_law_width", "_law_sizes", "_law_numbers"]
def b__law_sum : SM :=
  (seqS (ownS 4 (lstM nilA))
  (seqS (forS (rngI (consA (callM m__law_draw (consA (varM 0) (consA (bin2 ixF (lstM (consA (cM (.int 4)) (consA (cM (.int 4)) (consA (cM (.int 4)) (consA (cM (.int 13)) nilA))))) (callM m__law_draw (consA (varM 0) (consA (cM (.int 4)) nilA)))) nilA))) nilA)) (tfN 5)
  (seqS (setS 6 (cB tupF (consA (compM (seqI (varM 2)) [7] (tfN 7) yesT (bin2 subF (callM m__law_draw (consA (varM 0) (consA (bin2 addF (varM 7) (cM (.int 1))) nilA))) (cM (.int 1)))) nilA)))
  (appO 4 (tupM (consA (callM m__law_number (consA (varM 0) (consA (varM 1) nilA))) (consA (varM 6) (consA (bin2 subF (callM m__law_draw (consA (varM 0) (consA (bin2 addF (varM 3) (cM (.int 1))) nilA))) (cM (.int 1))) nilA)))))))
  (retS (cB tupF (consA (varL 4) nilA)))))
def m__law_sum : List Vl → Sto → Res Vl := runM N__law_sum.length b__law_sum
def d__law_sum : He.DefD := ⟨("_law_sum", none), "_law_sum", "_law_sum", defArgs s__law_sum, defBody s__law_sum, defScope s__law_sum, [], []⟩
theorem sc__law_sum : FnScope N__law_sum N__law_sum_ps (defScope s__law_sum) := ⟨rfl, rfl, rfl, by decide +kernel, rfl, by decide +kernel, by decide +kernel⟩
/-! ### _law_rule -/
abbrev s__law_rule : Stmt := top 49
abbrev N__law_rule : List Str := ["_law_well", "_law_width", "_law_kinds_here", "_law_name", "_law_kind", "_law_children", "_law_sizes", "_law_numbers", "_law_under", "_law_values", "_law_child", "_law_one_here", "_law_names", "_law_turn"]
abbrev N__law_rule_ps : List Str := ["_law_well", "_law_width", "_law_kinds_here", "_law_name", "_law_kind", "_law_children"]
def b__law_rule : SM :=
  (seqS (setS 6 (cB dictF (consA (compM (seqI (varM 2)) [11, 12] (tfT (tfCons (tfN 11) (tfCons (tfN 12) tfNil))) yesT (tupM (consA (varM 11) (consA (cB lenF (consA (varM 12) nilA)) nilA)))) nilA)))
  (seqS (setS 7 (callM m__law_draw (consA (varM 0) (consA (cM (.int 3)) nilA))))
  (seqS (setS 8 (compM (seqI (varM 5)) [10] (tfN 10) yesT (bin2 ixF (varM 6) (varM 10))))
  (seqS (setS 9 (cB tupF (consA (compM (rngI (consA (bin2 ixF (varM 6) (varM 4)) nilA)) [13] (tfN 13) yesT (callM m__law_sum (consA (varM 0) (consA (varM 1) (consA (varM 8) (consA (varM 7) nilA)))))) nilA)))
  (retS (tupM (consA (varM 3) (consA (varM 4) (consA (varM 5) (consA (varM 7) (consA (varM 9) nilA)))))))))))
def m__law_rule : List Vl → Sto → Res Vl := runM N__law_rule.length b__law_rule
def d__law_rule : He.DefD := ⟨("_law_rule", none), "_law_rule", "_law_rule", defArgs s__law_rule, defBody s__law_rule, defScope s__law_rule, [], []⟩
theorem sc__law_rule : FnScope N__law_rule N__law_rule_ps (defScope s__law_rule) := ⟨rfl, rfl, rfl, by decide +kernel, rfl, by decide +kernel, by decide +kernel⟩
/-! ### _law_rules -/
abbrev s__law_rules : Stmt := top 51
abbrev N__law_rules : List Str := ["_law_well", "_law_width", "_law_kinds_here", "_law_most", "_law_words", "_law_found", "_law_kind", "_law_names", "_law_turn", "_law_children", "_law_one_here"]
abbrev N__law_rules_ps : List Str := ["_law_well", "_law_width", "_law_kinds_here", "_law_most"]
def b__law_rules : SM :=
  (seqS (parVO 4 5 (lstM (consA (cM (.str "one")) (consA (cM (.str "r")) (consA (cM (.str "put")) (consA (cM (.str "nil")) (consA (cM (.str "f")) (consA (cM (.str "g")) (consA (cM (.str "h")) (consA (cM (.str "abcdefgh")) (consA (cM (.str "s")) (consA (cM (.str "t")) (consA (cM (.str "u")) (consA (cM (.str "v")) nilA))))))))))))) (lstM nilA))
  (seqS (forS (seqI (varM 2)) (tfT (tfCons (tfN 6) (tfCons (tfN 7) tfNil)))
  (ifS (orT (tv (bin2 eqF (varL 5) (lstM nilA))) (tv (bin2 gtF (callM m__law_draw (consA (varM 0) (consA (cM (.int 5)) nilA))) (cM (.int 0)))))
  (appO 5 (callM m__law_rule (consA (varM 0) (consA (varM 1) (consA (varM 2) (consA (bin2 ixF (varM 4) (cB lenF (consA (varL 5) nilA))) (consA (varM 6) (consA (tupM nilA) nilA))))))))
  nilS))
  (seqS (forS (rngI (consA (bin2 addF (cM (.int 1)) (callM m__law_draw (consA (varM 0) (consA (varM 3) nilA)))) nilA)) (tfN 8)
  (seqS (setS 9 (cB tupF (consA (compM (rngI (consA (bin2 addF (cM (.int 1)) (callM m__law_draw (consA (varM 0) (consA (cM (.int 2)) nilA)))) nilA)) [10] (tfN 10) yesT (bin2 ixF (callM m__law_one (consA (varM 0) (consA (varM 2) nilA))) (cM (.int 0)))) nilA)))
  (appO 5 (callM m__law_rule (consA (varM 0) (consA (varM 1) (consA (varM 2) (consA (bin2 ixF (varM 4) (cB lenF (consA (varL 5) nilA))) (consA (bin2 ixF (callM m__law_one (consA (varM 0) (consA (varM 2) nilA))) (cM (.int 0))) (consA (varM 9) nilA))))))))))
  (retV 5))))
def m__law_rules : List Vl → Sto → Res Vl := runM N__law_rules.length b__law_rules
def d__law_rules : He.DefD := ⟨("_law_rules", none), "_law_rules", "_law_rules", defArgs s__law_rules, defBody s__law_rules, defScope s__law_rules, [], []⟩
theorem sc__law_rules : FnScope N__law_rules N__law_rules_ps (defScope s__law_rules) := ⟨rfl, rfl, rfl, by decide +kernel, rfl, by decide +kernel, by decide +kernel⟩
/-! ### _law_form -/
abbrev s__law_form : Stmt := top 52
abbrev N__law_form : List Str := ["_law_well", "_law_width", "_law_many", "_law_turn"]
abbrev N__law_form_ps : List Str := ["_law_well", "_law_width", "_law_many"]
def b__law_form : SM :=
  (retS (cB tupF (consA (compM (rngI (consA (bin2 addF (varM 2) (cM (.int 1))) nilA)) [3] (tfN 3) yesT (bin2 mulF (callM m__law_number (consA (varM 0) (consA (varM 1) nilA))) (cB intF (consA (bin2 gtF (callM m__law_draw (consA (varM 0) (consA (cM (.int 3)) nilA))) (cM (.int 0))) nilA)))) nilA)))
def m__law_form : List Vl → Sto → Res Vl := runM N__law_form.length b__law_form
def d__law_form : He.DefD := ⟨("_law_form", none), "_law_form", "_law_form", defArgs s__law_form, defBody s__law_form, defScope s__law_form, [], []⟩
theorem sc__law_form : FnScope N__law_form N__law_form_ps (defScope s__law_form) := ⟨rfl, rfl, rfl, by decide +kernel, rfl, by decide +kernel, by decide +kernel⟩
/-! ### _law_answers -/
abbrev s__law_answers : Stmt := top 53
abbrev N__law_answers : List Str := ["_law_well", "_law_width", "_law_kinds_here", "_law_top", "_law_many", "_law_turn"]
abbrev N__law_answers_ps : List Str := ["_law_well", "_law_width", "_law_kinds_here", "_law_top"]
def b__law_answers : SM :=
  (seqS (setS 4 (cB lenF (consA (bin2 ixF (cB dictF (consA (varM 2) nilA)) (varM 3)) nilA)))
  (retS (compM (rngI (consA (bin2 addF (cM (.int 1)) (callM m__law_draw (consA (varM 0) (consA (cM (.int 4)) nilA)))) nilA)) [5] (tfN 5) yesT (callM m__law_form (consA (varM 0) (consA (varM 1) (consA (varM 4) nilA)))))))
def m__law_answers : List Vl → Sto → Res Vl := runM N__law_answers.length b__law_answers
def d__law_answers : He.DefD := ⟨("_law_answers", none), "_law_answers", "_law_answers", defArgs s__law_answers, defBody s__law_answers, defScope s__law_answers, [], []⟩
theorem sc__law_answers : FnScope N__law_answers N__law_answers_ps (defScope s__law_answers) := ⟨rfl, rfl, rfl, by decide +kernel, rfl, by decide +kernel, by decide +kernel⟩
/-! ### is_int -/
abbrev s_is_int : Stmt := top 17
abbrev N_is_int : List Str := ["value"]
abbrev N_is_int_ps : List Str := ["value"]
def b_is_int : SM :=
  (retS (andV (isiM [.int] (varM 0)) (notV (isiM [.bool] (varM 0)))))
def m_is_int : List Vl → Sto → Res Vl := runM N_is_int.length b_is_int
def d_is_int : He.DefD := ⟨("is_int", none), "is_int", "is_int", defArgs s_is_int, defBody s_is_int, defScope s_is_int, [], []⟩
theorem sc_is_int : FnScope N_is_int N_is_int_ps (defScope s_is_int) := ⟨rfl, rfl, rfl, by decide +kernel, rfl, by decide +kernel, by decide +kernel⟩
/-! ### is_from -/
abbrev s_is_from : Stmt := top 18
abbrev N_is_from : List Str := ["value", "low", "high"]
abbrev N_is_from_ps : List Str := ["value", "low", "high"]
def b_is_from : SM :=
  (retS (andV (callM m_is_int (consA (varM 0) nilA)) (ch3 leF leF (varM 1) (varM 0) (varM 2))))
def m_is_from : List Vl → Sto → Res Vl := runM N_is_from.length b_is_from
def d_is_from : He.DefD := ⟨("is_from", none), "is_from", "is_from", defArgs s_is_from, defBody s_is_from, defScope s_is_from, [], []⟩
theorem sc_is_from : FnScope N_is_from N_is_from_ps (defScope s_is_from) := ⟨rfl, rfl, rfl, by decide +kernel, rfl, by decide +kernel, by decide +kernel⟩
/-! ### is_name -/
abbrev s_is_name : Stmt := top 19
abbrev N_is_name : List Str := ["value", "sign"]
abbrev N_is_name_ps : List Str := ["value"]
def b_is_name : SM :=
  (retS (andV (isiM [.str] (varM 0)) (andV (ch3 leF leF (cM (.int 1)) (cB lenF (consA (varM 0) nilA)) (cM (.int 8))) (cB allF (consA (compM (strI (varM 0)) [1] (tfN 1) yesT (bin2 inF (varM 1) (cM (.str "abcdefghijklmnopqrstuvwxyz")))) nilA)))))
def m_is_name : List Vl → Sto → Res Vl := runM N_is_name.length b_is_name
def d_is_name : He.DefD := ⟨("is_name", none), "is_name", "is_name", defArgs s_is_name, defBody s_is_name, defScope s_is_name, [], []⟩
theorem sc_is_name : FnScope N_is_name N_is_name_ps (defScope s_is_name) := ⟨rfl, rfl, rfl, by decide +kernel, rfl, by decide +kernel, by decide +kernel⟩
/-! ### are_names -/
abbrev s_are_names : Stmt := top 20
abbrev N_are_names : List Str := ["value", "most", "at", "one"]
abbrev N_are_names_ps : List Str := ["value", "most"]
def b_are_names : SM :=
  (seqS (ifS (orT (notT (tv (isiM [.tup] (varM 0)))) (notT (tv (ch3 leF leF (cM (.int 1)) (cB lenF (consA (varM 0) nilA)) (varM 1)))))
  (retS (cM (.bl false)))
  nilS)
  (retS (cB allF (consA (compM (enI (consA (varM 0) nilA)) [2, 3] (tfT (tfCons (tfN 2) (tfCons (tfN 3) tfNil))) yesT (andV (callM m_is_name (consA (varM 3) nilA)) (bin2 notInF (varM 3) (slM (varM 0) oN (oS (varM 2)))))) nilA))))
def m_are_names : List Vl → Sto → Res Vl := runM N_are_names.length b_are_names
def d_are_names : He.DefD := ⟨("are_names", none), "are_names", "are_names", defArgs s_are_names, defBody s_are_names, defScope s_are_names, [], []⟩
theorem sc_are_names : FnScope N_are_names N_are_names_ps (defScope s_are_names) := ⟨rfl, rfl, rfl, by decide +kernel, rfl, by decide +kernel, by decide +kernel⟩
/-! ### check_kinds -/
abbrev s_check_kinds : Stmt := top 25
abbrev N_check_kinds : List Str := ["kinds", "known", "index", "kind"]
abbrev N_check_kinds_ps : List Str := ["kinds"]
def b_check_kinds : SM :=
  (seqS (ifS (orT (notT (tv (isiM [.lst, .tup] (varM 0)))) (notT (tv (ch3 leF leF (cM (.int 1)) (cB lenF (consA (varM 0) nilA)) (cM (.int 5))))))
  badS
  nilS)
  (seqS (ownS 1 (lstM nilA))
  (forS (enI (consA (varM 0) nilA)) (tfT (tfCons (tfN 2) (tfCons (tfN 3) tfNil)))
  (seqS (ifS (orT (notT (tv (isiM [.tup] (varM 3)))) (orT (tv (bin2 neF (cB lenF (consA (varM 3) nilA)) (cM (.int 2)))) (orT (notT (tv (callM m_is_name (consA (bin2 ixF (varM 3) (cM (.int 0))) nilA)))) (tv (bin2 inF (bin2 ixF (varM 3) (cM (.int 0))) (varL 1))))))
  badS
  nilS)
  (seqS (ifS (notT (tv (callM m_are_names (consA (bin2 ixF (varM 3) (cM (.int 1))) (consA (cM (.int 3)) nilA)))))
  badS
  nilS)
  (appO 1 (bin2 ixF (varM 3) (cM (.int 0)))))))))
def m_check_kinds : List Vl → Sto → Res Vl := runM N_check_kinds.length b_check_kinds
def d_check_kinds : He.DefD := ⟨("check_kinds", none), "check_kinds", "check_kinds", defArgs s_check_kinds, defBody s_check_kinds, defScope s_check_kinds, [], []⟩
theorem sc_check_kinds : FnScope N_check_kinds N_check_kinds_ps (defScope s_check_kinds) := ⟨rfl, rfl, rfl, by decide +kernel, rfl, by decide +kernel, by decide +kernel⟩
/-! ### is_term -/
abbrev s_is_term : Stmt := top 22
abbrev N_is_term : List Str := ["term", "sizes", "numbers", "pick", "size"]
abbrev N_is_term_ps : List Str := ["term", "sizes", "numbers"]
def b_is_term : SM :=
  (seqS (ifS (orT (notT (tv (isiM [.tup] (varM 0)))) (orT (tv (bin2 neF (cB lenF (consA (varM 0) nilA)) (cM (.int 3)))) (notT (tv (callM m_is_int (consA (bin2 ixF (varM 0) (cM (.int 0))) nilA))))))
  (retS (cM (.bl false)))
  nilS)
  (seqS (ifS (orT (notT (tv (isiM [.tup] (bin2 ixF (varM 0) (cM (.int 1)))))) (tv (bin2 neF (cB lenF (consA (bin2 ixF (varM 0) (cM (.int 1))) nilA)) (cB lenF (consA (varM 1) nilA)))))
  (retS (cM (.bl false)))
  nilS)
  (seqS (ifS (notT (tv (cB allF (consA (compM (zpI (consA (bin2 ixF (varM 0) (cM (.int 1))) (consA (varM 1) nilA))) [3, 4] (tfT (tfCons (tfN 3) (tfCons (tfN 4) tfNil))) yesT (callM m_is_from (consA (varM 3) (consA (un1 negF (cM (.int 1))) (consA (bin2 subF (varM 4) (cM (.int 1))) nilA))))) nilA))))
  (retS (cM (.bl false)))
  nilS)
  (retS (callM m_is_from (consA (bin2 ixF (varM 0) (cM (.int 2))) (consA (un1 negF (cM (.int 1))) (consA (bin2 subF (varM 2) (cM (.int 1))) nilA))))))))
def m_is_term : List Vl → Sto → Res Vl := runM N_is_term.length b_is_term
def d_is_term : He.DefD := ⟨("is_term", none), "is_term", "is_term", defArgs s_is_term, defBody s_is_term, defScope s_is_term, [], []⟩
theorem sc_is_term : FnScope N_is_term N_is_term_ps (defScope s_is_term) := ⟨rfl, rfl, rfl, by decide +kernel, rfl, by decide +kernel, by decide +kernel⟩
/-! ### are_sums -/
abbrev s_are_sums : Stmt := top 23
abbrev N_are_sums : List Str := ["values", "many", "sizes", "numbers", "most", "terms", "term"]
abbrev N_are_sums_ps : List Str := ["values", "many", "sizes", "numbers", "most"]
def b_are_sums : SM :=
  (seqS (ifS (orT (notT (tv (isiM [.tup] (varM 0)))) (tv (bin2 neF (cB lenF (consA (varM 0) nilA)) (varM 1))))
  (retS (cM (.bl false)))
  nilS)
  (seqS (forS (seqI (varM 0)) (tfN 5)
  (seqS (ifS (orT (notT (tv (isiM [.tup] (varM 5)))) (tv (bin2 gtF (cB lenF (consA (varM 5) nilA)) (varM 4))))
  (retS (cM (.bl false)))
  nilS)
  (ifS (notT (tv (cB allF (consA (compM (seqI (varM 5)) [6] (tfN 6) yesT (callM m_is_term (consA (varM 6) (consA (varM 2) (consA (varM 3) nilA))))) nilA))))
  (retS (cM (.bl false)))
  nilS)))
  (retS (cM (.bl true)))))
def m_are_sums : List Vl → Sto → Res Vl := runM N_are_sums.length b_are_sums
def d_are_sums : He.DefD := ⟨("are_sums", none), "are_sums", "are_sums", defArgs s_are_sums, defBody s_are_sums, defScope s_are_sums, [.int 12], []⟩
theorem sc_are_sums : FnScope N_are_sums N_are_sums_ps (defScope s_are_sums) := ⟨rfl, rfl, rfl, by decide +kernel, rfl, by decide +kernel, by decide +kernel⟩
/-! ### is_rule -/
abbrev s_is_rule : Stmt := top 24
abbrev N_is_rule : List Str := ["rule", "known", "sizes", "one"]
abbrev N_is_rule_ps : List Str := ["rule", "known", "sizes"]
def b_is_rule : SM :=
  (seqS (ifS (orT (notT (tv (isiM [.tup] (varM 0)))) (orT (tv (bin2 neF (cB lenF (consA (varM 0) nilA)) (cM (.int 5)))) (orT (notT (tv (callM m_is_name (consA (bin2 ixF (varM 0) (cM (.int 0))) nilA)))) (tv (bin2 inF (bin2 ixF (varM 0) (cM (.int 0))) (varM 1))))))
  (retS (cM (.bl false)))
  nilS)
  (seqS (ifS (orT (notT (tv (isiM [.str] (bin2 ixF (varM 0) (cM (.int 1)))))) (tv (bin2 notInF (bin2 ixF (varM 0) (cM (.int 1))) (varM 2))))
  (retS (cM (.bl false)))
  nilS)
  (seqS (ifS (orT (notT (tv (isiM [.tup] (bin2 ixF (varM 0) (cM (.int 2)))))) (tv (bin2 gtF (cB lenF (consA (bin2 ixF (varM 0) (cM (.int 2))) nilA)) (cM (.int 2)))))
  (retS (cM (.bl false)))
  nilS)
  (seqS (ifS (orT (notT (tv (cB allF (consA (compM (seqI (bin2 ixF (varM 0) (cM (.int 2)))) [3] (tfN 3) yesT (andV (isiM [.str] (varM 3)) (bin2 inF (varM 3) (varM 2)))) nilA)))) (notT (tv (callM m_is_from (consA (bin2 ixF (varM 0) (cM (.int 3))) (consA (cM (.int 0)) (consA (cM (.int 2)) nilA)))))))
  (retS (cM (.bl false)))
  nilS)
  (retS (callD m_are_sums [.int 12] (consA (bin2 ixF (varM 0) (cM (.int 4))) (consA (bin2 ixF (varM 2) (bin2 ixF (varM 0) (cM (.int 1)))) (consA (compM (seqI (bin2 ixF (varM 0) (cM (.int 2)))) [3] (tfN 3) yesT (bin2 ixF (varM 2) (varM 3))) (consA (bin2 ixF (varM 0) (cM (.int 3))) nilA))))))))))
def m_is_rule : List Vl → Sto → Res Vl := runM N_is_rule.length b_is_rule
def d_is_rule : He.DefD := ⟨("is_rule", none), "is_rule", "is_rule", defArgs s_is_rule, defBody s_is_rule, defScope s_is_rule, [], []⟩
theorem sc_is_rule : FnScope N_is_rule N_is_rule_ps (defScope s_is_rule) := ⟨rfl, rfl, rfl, by decide +kernel, rfl, by decide +kernel, by decide +kernel⟩
/-! ### is_form -/
abbrev s_is_form : Stmt := top 21
abbrev N_is_form : List Str := ["value", "many", "one"]
abbrev N_is_form_ps : List Str := ["value", "many"]
def b_is_form : SM :=
  (retS (andV (isiM [.tup] (varM 0)) (andV (bin2 eqF (cB lenF (consA (varM 0) nilA)) (bin2 addF (varM 1) (cM (.int 1)))) (cB allF (consA (compM (seqI (varM 0)) [2] (tfN 2) yesT (callM m_is_int (consA (varM 2) nilA))) nilA)))))
def m_is_form : List Vl → Sto → Res Vl := runM N_is_form.length b_is_form
def d_is_form : He.DefD := ⟨("is_form", none), "is_form", "is_form", defArgs s_is_form, defBody s_is_form, defScope s_is_form, [], []⟩
theorem sc_is_form : FnScope N_is_form N_is_form_ps (defScope s_is_form) := ⟨rfl, rfl, rfl, by decide +kernel, rfl, by decide +kernel, by decide +kernel⟩
/-! ### check_grammar -/
abbrev s_check_grammar : Stmt := top 26
abbrev N_check_grammar : List Str := ["width", "kinds", "rules", "top", "answers", "sizes", "known", "index", "rule", "form", "name", "names"]
abbrev N_check_grammar_ps : List Str := ["width", "kinds", "rules", "top", "answers"]
def b_check_grammar : SM :=
  (seqS (ifS (notT (tv (callM m_is_from (consA (varM 0) (consA (cM (.int 1)) (consA (cM (.int 64)) nilA))))))
  badS
  nilS)
  (seqS (exprS (callM m_check_kinds (consA (varM 1) nilA)))
  (seqS (parVO 5 6 (cB dictF (consA (compM (seqI (varM 1)) [10, 11] (tfT (tfCons (tfN 10) (tfCons (tfN 11) tfNil))) yesT (tupM (consA (varM 10) (consA (cB lenF (consA (varM 11) nilA)) nilA)))) nilA)) (lstM nilA))
  (seqS (ifS (orT (notT (tv (isiM [.lst, .tup] (varM 2)))) (notT (tv (ch3 leF leF (cM (.int 1)) (cB lenF (consA (varM 2) nilA)) (cM (.int 12))))))
  badS
  nilS)
  (seqS (forS (enI (consA (varM 2) nilA)) (tfT (tfCons (tfN 7) (tfCons (tfN 8) tfNil)))
  (seqS (ifS (notT (tv (callL m_is_rule (consA (varM 8) (consA (varL 6) (consA (varM 5) nilA))))))
  badS
  nilS)
  (appO 6 (bin2 ixF (varM 8) (cM (.int 0))))))
  (seqS (ifS (orT (notT (tv (isiM [.str] (varM 3)))) (tv (bin2 notInF (varM 3) (varM 5))))
  badS
  nilS)
  (seqS (ifS (orT (notT (tv (isiM [.lst, .tup] (varM 4)))) (notT (tv (ch3 leF leF (cM (.int 1)) (cB lenF (consA (varM 4) nilA)) (cM (.int 4))))))
  badS
  nilS)
  (forS (enI (consA (varM 4) nilA)) (tfT (tfCons (tfN 7) (tfCons (tfN 9) tfNil)))
  (ifS (notT (tv (callM m_is_form (consA (varM 9) (consA (bin2 ixF (varM 5) (varM 3)) nilA)))))
  badS
  nilS)))))))))
def m_check_grammar : List Vl → Sto → Res Vl := runM N_check_grammar.length b_check_grammar
def d_check_grammar : He.DefD := ⟨("check_grammar", none), "check_grammar", "check_grammar", defArgs s_check_grammar, defBody s_check_grammar, defScope s_check_grammar, [], []⟩
theorem sc_check_grammar : FnScope N_check_grammar N_check_grammar_ps (defScope s_check_grammar) := ⟨rfl, rfl, rfl, by decide +kernel, rfl, by decide +kernel, by decide +kernel⟩
/-! ### reduced_sums -/
abbrev s_reduced_sums : Stmt := top 28
abbrev N_reduced_sums : List Str := ["values", "modulus", "found", "terms", "factor", "picks", "number"]
abbrev N_reduced_sums_ps : List Str := ["values", "modulus"]
def b_reduced_sums : SM :=
  (seqS (ownS 2 (lstM nilA))
  (seqS (forS (seqI (varM 0)) (tfN 3)
  (appO 2 (cB tupF (consA (compM (seqI (varM 3)) [4, 5, 6] (tfT (tfCons (tfN 4) (tfCons (tfN 5) (tfCons (tfN 6) tfNil)))) yesT (tupM (consA (bin2 modF (varM 4) (varM 1)) (consA (varM 5) (consA (varM 6) nilA))))) nilA))))
  (retS (cB tupF (consA (varL 2) nilA)))))
def m_reduced_sums : List Vl → Sto → Res Vl := runM N_reduced_sums.length b_reduced_sums
def d_reduced_sums : He.DefD := ⟨("reduced_sums", none), "reduced_sums", "reduced_sums", defArgs s_reduced_sums, defBody s_reduced_sums, defScope s_reduced_sums, [], []⟩
theorem sc_reduced_sums : FnScope N_reduced_sums N_reduced_sums_ps (defScope s_reduced_sums) := ⟨rfl, rfl, rfl, by decide +kernel, rfl, by decide +kernel, by decide +kernel⟩
/-! ### reduced -/
abbrev s_reduced : Stmt := top 27
abbrev N_reduced : List Str := ["form", "modulus", "number"]
abbrev N_reduced_ps : List Str := ["form", "modulus"]
def b_reduced : SM :=
  (retS (cB tupF (consA (compM (seqI (varM 0)) [2] (tfN 2) yesT (bin2 modF (varM 2) (varM 1))) nilA)))
def m_reduced : List Vl → Sto → Res Vl := runM N_reduced.length b_reduced
def d_reduced : He.DefD := ⟨("reduced", none), "reduced", "reduced", defArgs s_reduced, defBody s_reduced, defScope s_reduced, [], []⟩
theorem sc_reduced : FnScope N_reduced N_reduced_ps (defScope s_reduced) := ⟨rfl, rfl, rfl, by decide +kernel, rfl, by decide +kernel, by decide +kernel⟩
/-! ### Grammar.__init__ -/
abbrev s_Grammar___init__ : Stmt := mth 29 0
abbrev N_Grammar___init__ : List Str := ["self", "width", "kinds", "rules", "top", "answers", "modulus", "rule", "form"]
abbrev N_Grammar___init___ps : List Str := ["self", "width", "kinds", "rules", "top", "answers"]
def b_Grammar___init__ : SM :=
  (seqS (exprS (callM m_check_grammar (consA (varM 1) (consA (varM 2) (consA (varM 3) (consA (varM 4) (consA (varM 5) nilA)))))))
  (seqS (setS 6 (bin2 shlF (cM (.int 1)) (varM 1)))
  (seqS (sfS 0 "width" 0 (varM 1))
  (seqS (sfS 0 "kinds" 0 (cB tupF (consA (varM 2) nilA)))
  (seqS (sfS 0 "rules" 0 (cB tupF (consA (compM (seqI (varM 3)) [7] (tfN 7) yesT (bin2 addF (slM (varM 7) oN (oS (cM (.int 4)))) (tupM (consA (callM m_reduced_sums (consA (bin2 ixF (varM 7) (cM (.int 4))) (consA (varM 6) nilA))) nilA)))) nilA)))
  (seqS (sfS 0 "top" 0 (varM 4))
  (sfS 0 "answers" 0 (cB tupF (consA (compM (seqI (varM 5)) [8] (tfN 8) yesT (callM m_reduced (consA (varM 8) (consA (varM 6) nilA)))) nilA)))))))))
def m_Grammar___init__ : Addr → List Vl → Sto → Res Vl := runI N_Grammar___init__.length 0 b_Grammar___init__
def d_Grammar___init__ : He.DefD := ⟨("Grammar", some "__init__"), "__init__", "Grammar.__init__", defArgs s_Grammar___init__, defBody s_Grammar___init__, defScope s_Grammar___init__, [], []⟩
theorem sc_Grammar___init__ : FnScope N_Grammar___init__ N_Grammar___init___ps (defScope s_Grammar___init__) := ⟨rfl, rfl, rfl, by decide +kernel, rfl, by decide +kernel, by decide +kernel⟩
/-! ### _law_grown -/
abbrev s__law_grown : Stmt := top 56
abbrev N__law_grown : List Str := ["_law_well", "_law_rules_here", "_law_most", "_law_steps", "_law_kinds_here", "_law_turn", "_law_name", "_law_kind", "_law_children", "_law_many", "_law_values", "_law_places", "_law_child", "_law_some", "_law_numbers", "_law_k", "_law_place"]
abbrev N__law_grown_ps : List Str := ["_law_well", "_law_rules_here", "_law_most"]
def b__law_grown : SM :=
  (seqS (parOO 3 4 (lstM nilA) (lstM nilA))
  (seqS (forS (rngI (consA (varM 2) nilA)) (tfN 5)
  (seqS (unpS [6, 7, 8, 9, 10] (callM m__law_one (consA (varM 0) (consA (varM 1) nilA))))
  (ifS (tv (bin2 eqF (cB lenF (consA (compM (seqI (varM 8)) [12] (tfN 12) (tv (bin2 notInF (varM 12) (varL 4))) (varM 12)) nilA)) (cM (.int 0))))
  (seqS (ownS 11 (lstM nilA))
  (seqS (forS (seqI (varM 8)) (tfN 12)
  (seqS (setS 13 (compM (rngI (consA (cB lenF (consA (varL 4) nilA)) nilA)) [16] (tfN 16) (tv (bin2 eqF (bin2 ixF (varL 4) (varM 16)) (varM 12))) (varM 16)))
  (appO 11 (callM m__law_one (consA (varM 0) (consA (varM 13) nilA))))))
  (seqS (ownS 14 (lstM nilA))
  (seqS (forS (rngI (consA (varM 9) nilA)) (tfN 15)
  (appO 14 (callM m__law_one (consA (varM 0) (consA (lstM (consA (cM (.int 0)) (consA (cM (.int 1)) (consA (un1 negF (cM (.int 1))) (consA (cM (.int 5)) (consA (bin2 addF (bin2 powF (cM (.int 2)) (cM (.int 64))) (cM (.int 1))) (consA (callM m__law_draw (consA (varM 0) (consA (bin2 powF (cM (.int 10)) (cM (.int 6))) nilA))) nilA))))))) nilA)))))
  (seqS (appO 3 (tupM (consA (varM 6) (consA (cB tupF (consA (varL 11) nilA)) (consA (cB tupF (consA (varL 14) nilA)) nilA)))))
  (appO 4 (varM 7)))))))
  nilS)))
  (seqS (frzS 4) (seqS (frzS 3) (retS (tupM (consA (varM 3) (consA (varM 4) nilA))))))))
def m__law_grown : List Vl → Sto → Res Vl := runM N__law_grown.length b__law_grown
def d__law_grown : He.DefD := ⟨("_law_grown", none), "_law_grown", "_law_grown", defArgs s__law_grown, defBody s__law_grown, defScope s__law_grown, [], []⟩
theorem sc__law_grown : FnScope N__law_grown N__law_grown_ps (defScope s__law_grown) := ⟨rfl, rfl, rfl, by decide +kernel, rfl, by decide +kernel, by decide +kernel⟩
/-! ### _law_made -/
abbrev s__law_made : Stmt := top 54
abbrev N__law_made : List Str := ["_law_width", "_law_values", "_law_states", "_law_numbers", "_law_found", "_law_terms", "_law_total", "_law_factor", "_law_picks", "_law_number_here", "_law_piece", "_law_at", "_law_pick"]
abbrev N__law_made_ps : List Str := ["_law_width", "_law_values", "_law_states", "_law_numbers"]
def b__law_made : SM :=
  (seqS (ownS 4 (lstM nilA))
  (seqS (forS (seqI (varM 1)) (tfN 5)
  (seqS (setS 6 (cM (.int 0)))
  (seqS (forS (seqI (varM 5)) (tfT (tfCons (tfN 7) (tfCons (tfN 8) (tfCons (tfN 9) tfNil))))
  (seqS (setS 10 (varM 7))
  (seqS (forS (enI (consA (varM 8) nilA)) (tfT (tfCons (tfN 11) (tfCons (tfN 12) tfNil)))
  (ifS (tv (bin2 geF (varM 12) (cM (.int 0))))
  (setS 10 (bin2 mulF (varM 10) (bin2 ixF (bin2 ixF (varM 2) (varM 11)) (varM 12))))
  nilS))
  (seqS (ifS (tv (bin2 geF (varM 9) (cM (.int 0))))
  (setS 10 (bin2 mulF (varM 10) (bin2 ixF (varM 3) (varM 9))))
  nilS)
  (setS 6 (bin2 addF (varM 6) (varM 10)))))))
  (appO 4 (bin2 modF (cB intF (consA (varM 6) nilA)) (bin2 shlF (cM (.int 1)) (varM 0)))))))
  (retS (cB tupF (consA (varL 4) nilA)))))
def m__law_made : List Vl → Sto → Res Vl := runM N__law_made.length b__law_made
def d__law_made : He.DefD := ⟨("_law_made", none), "_law_made", "_law_made", defArgs s__law_made, defBody s__law_made, defScope s__law_made, [], []⟩
theorem sc__law_made : FnScope N__law_made N__law_made_ps (defScope s__law_made) := ⟨rfl, rfl, rfl, by decide +kernel, rfl, by decide +kernel, by decide +kernel⟩
/-! ### _law_along -/
abbrev s__law_along : Stmt := top 55
abbrev N__law_along : List Str := ["_law_width", "_law_rules_here", "_law_steps", "_law_known", "_law_found", "_law_name", "_law_places", "_law_numbers", "_law_rule_here", "_law_place"]
abbrev N__law_along_ps : List Str := ["_law_width", "_law_rules_here", "_law_steps"]
def b__law_along : SM :=
  (seqS (parVO 3 4 (cB dictF (consA (compM (seqI (varM 1)) [8] (tfN 8) yesT (tupM (consA (bin2 ixF (varM 8) (cM (.int 0))) (consA (varM 8) nilA)))) nilA)) (lstM nilA))
  (seqS (forS (seqI (varM 2)) (tfT (tfCons (tfN 5) (tfCons (tfN 6) (tfCons (tfN 7) tfNil))))
  (appO 4 (callM m__law_made (consA (varM 0) (consA (bin2 ixF (bin2 ixF (varM 3) (varM 5)) (cM (.int 4))) (consA (compM (seqI (varM 6)) [9] (tfN 9) yesT (bin2 ixF (varL 4) (varM 9))) (consA (varM 7) nilA)))))))
  (retV 4)))
def m__law_along : List Vl → Sto → Res Vl := runM N__law_along.length b__law_along
def d__law_along : He.DefD := ⟨("_law_along", none), "_law_along", "_law_along", defArgs s__law_along, defBody s__law_along, defScope s__law_along, [], []⟩
theorem sc__law_along : FnScope N__law_along N__law_along_ps (defScope s__law_along) := ⟨rfl, rfl, rfl, by decide +kernel, rfl, by decide +kernel, by decide +kernel⟩
/-! ### are_steps -/
abbrev s_are_steps : Stmt := top 35
abbrev N_are_steps : List Str := ["tree"]
abbrev N_are_steps_ps : List Str := ["tree"]
def b_are_steps : SM :=
  (retS (andV (isiM [.lst, .tup] (varM 0)) (ch3 leF leF (cM (.int 1)) (cB lenF (consA (varM 0) nilA)) (cM (.int 2000)))))
def m_are_steps : List Vl → Sto → Res Vl := runM N_are_steps.length b_are_steps
def d_are_steps : He.DefD := ⟨("are_steps", none), "are_steps", "are_steps", defArgs s_are_steps, defBody s_are_steps, defScope s_are_steps, [], []⟩
theorem sc_are_steps : FnScope N_are_steps N_are_steps_ps (defScope s_are_steps) := ⟨rfl, rfl, rfl, by decide +kernel, rfl, by decide +kernel, by decide +kernel⟩
/-! ### Grammar.rule_named -/
abbrev s_Grammar_rule_named : Stmt := mth 29 6
abbrev N_Grammar_rule_named : List Str := ["self", "name", "rule"]
abbrev N_Grammar_rule_named_ps : List Str := ["self", "name"]
def b_Grammar_rule_named : SM :=
  (retS (bin2 ixF (compM (seqI (fldM 0 "rules" (varM 0))) [2] (tfN 2) (tv (bin2 eqF (bin2 ixF (varM 2) (cM (.int 0))) (varM 1))) (varM 2)) (cM (.int 0))))
def m_Grammar_rule_named : List Vl → Sto → Res Vl := runM N_Grammar_rule_named.length b_Grammar_rule_named
def d_Grammar_rule_named : He.DefD := ⟨("Grammar", some "rule_named"), "rule_named", "Grammar.rule_named", defArgs s_Grammar_rule_named, defBody s_Grammar_rule_named, defScope s_Grammar_rule_named, [], []⟩
theorem sc_Grammar_rule_named : FnScope N_Grammar_rule_named N_Grammar_rule_named_ps (defScope s_Grammar_rule_named) := ⟨rfl, rfl, rfl, by decide +kernel, rfl, by decide +kernel, by decide +kernel⟩
/-! ### is_step -/
abbrev s_is_step : Stmt := top 36
abbrev N_is_step : List Str := ["grammar", "step", "kinds", "name", "kind", "children", "many", "values", "rule", "place", "one"]
abbrev N_is_step_ps : List Str := ["grammar", "step", "kinds"]
def b_is_step : SM :=
  (seqS (ifS (orT (notT (tv (isiM [.tup] (varM 1)))) (orT (tv (bin2 neF (cB lenF (consA (varM 1) nilA)) (cM (.int 3)))) (notT (tv (isiM [.str] (bin2 ixF (varM 1) (cM (.int 0))))))))
  (retS (cM (.bl false)))
  nilS)
  (seqS (ifS (tv (bin2 notInF (bin2 ixF (varM 1) (cM (.int 0))) (compM (seqI (fldM 0 "rules" (varM 0))) [8] (tfN 8) yesT (bin2 ixF (varM 8) (cM (.int 0))))))
  (retS (cM (.bl false)))
  nilS)
  (seqS (unpS [3, 4, 5, 6, 7] (methM 0 "rule_named" m_Grammar_rule_named (varM 0) (consA (bin2 ixF (varM 1) (cM (.int 0))) nilA)))
  (seqS (ifS (orT (notT (tv (isiM [.tup] (bin2 ixF (varM 1) (cM (.int 1)))))) (tv (bin2 neF (cB lenF (consA (bin2 ixF (varM 1) (cM (.int 1))) nilA)) (cB lenF (consA (varM 5) nilA)))))
  (retS (cM (.bl false)))
  nilS)
  (seqS (ifS (notT (tv (cB allF (consA (compM (seqI (bin2 ixF (varM 1) (cM (.int 1)))) [9] (tfN 9) yesT (callM m_is_from (consA (varM 9) (consA (cM (.int 0)) (consA (bin2 subF (cB lenF (consA (varM 2) nilA)) (cM (.int 1))) nilA))))) nilA))))
  (retS (cM (.bl false)))
  nilS)
  (seqS (ifS (tv (bin2 neF (compM (seqI (bin2 ixF (varM 1) (cM (.int 1)))) [9] (tfN 9) yesT (bin2 ixF (varM 2) (varM 9))) (cB listF (consA (varM 5) nilA))))
  (retS (cM (.bl false)))
  nilS)
  (retS (andV (isiM [.tup] (bin2 ixF (varM 1) (cM (.int 2)))) (andV (bin2 eqF (cB lenF (consA (bin2 ixF (varM 1) (cM (.int 2))) nilA)) (varM 6)) (cB allF (consA (compM (seqI (bin2 ixF (varM 1) (cM (.int 2)))) [10] (tfN 10) yesT (callM m_is_int (consA (varM 10) nilA))) nilA)))))))))))
def m_is_step : List Vl → Sto → Res Vl := runM N_is_step.length b_is_step
def d_is_step : He.DefD := ⟨("is_step", none), "is_step", "is_step", defArgs s_is_step, defBody s_is_step, defScope s_is_step, [], []⟩
theorem sc_is_step : FnScope N_is_step N_is_step_ps (defScope s_is_step) := ⟨rfl, rfl, rfl, by decide +kernel, rfl, by decide +kernel, by decide +kernel⟩
/-! ### kinds_of -/
abbrev s_kinds_of : Stmt := top 37
abbrev N_kinds_of : List Str := ["grammar", "tree", "kinds", "index", "step"]
abbrev N_kinds_of_ps : List Str := ["grammar", "tree"]
def b_kinds_of : SM :=
  (seqS (ifS (notT (tv (callM m_are_steps (consA (varM 1) nilA))))
  badS
  nilS)
  (seqS (ownS 2 (lstM nilA))
  (seqS (forS (enI (consA (varM 1) nilA)) (tfT (tfCons (tfN 3) (tfCons (tfN 4) tfNil)))
  (seqS (ifS (notT (tv (callL m_is_step (consA (varM 0) (consA (varM 4) (consA (varL 2) nilA))))))
  badS
  nilS)
  (appO 2 (bin2 ixF (methM 0 "rule_named" m_Grammar_rule_named (varM 0) (consA (bin2 ixF (varM 4) (cM (.int 0))) nilA)) (cM (.int 1))))))
  (retV 2))))
def m_kinds_of : List Vl → Sto → Res Vl := runM N_kinds_of.length b_kinds_of
def d_kinds_of : He.DefD := ⟨("kinds_of", none), "kinds_of", "kinds_of", defArgs s_kinds_of, defBody s_kinds_of, defScope s_kinds_of, [], []⟩
theorem sc_kinds_of : FnScope N_kinds_of N_kinds_of_ps (defScope s_kinds_of) := ⟨rfl, rfl, rfl, by decide +kernel, rfl, by decide +kernel, by decide +kernel⟩
/-! ### kind_of -/
abbrev s_kind_of : Stmt := top 38
abbrev N_kind_of : List Str := ["grammar", "tree"]
abbrev N_kind_of_ps : List Str := ["grammar", "tree"]
def b_kind_of : SM :=
  (retS (bin2 ixF (callM m_kinds_of (consA (varM 0) (consA (varM 1) nilA))) (un1 negF (cM (.int 1)))))
def m_kind_of : List Vl → Sto → Res Vl := runM N_kind_of.length b_kind_of
def d_kind_of : He.DefD := ⟨("kind_of", none), "kind_of", "kind_of", defArgs s_kind_of, defBody s_kind_of, defScope s_kind_of, [], []⟩
theorem sc_kind_of : FnScope N_kind_of N_kind_of_ps (defScope s_kind_of) := ⟨rfl, rfl, rfl, by decide +kernel, rfl, by decide +kernel, by decide +kernel⟩
/-! ### sum_of -/
abbrev s_sum_of : Stmt := top 30
abbrev N_sum_of : List Str := ["terms", "states", "numbers", "modulus", "found", "factor", "picks", "number", "product", "pick", "state"]
abbrev N_sum_of_ps : List Str := ["terms", "states", "numbers", "modulus"]
def b_sum_of : SM :=
  (seqS (setS 4 (cM (.int 0)))
  (seqS (forS (seqI (varM 0)) (tfT (tfCons (tfN 5) (tfCons (tfN 6) (tfCons (tfN 7) tfNil))))
  (seqS (setS 8 (ifM (tv (bin2 eqF (varM 7) (un1 negF (cM (.int 1))))) (varM 5) (bin2 mulF (varM 5) (bin2 ixF (varM 2) (varM 7)))))
  (seqS (forS (zpI (consA (varM 6) (consA (varM 1) nilA))) (tfT (tfCons (tfN 9) (tfCons (tfN 10) tfNil)))
  (ifS (tv (bin2 neF (varM 9) (un1 negF (cM (.int 1)))))
  (setS 8 (bin2 modF (bin2 mulF (varM 8) (bin2 ixF (varM 10) (varM 9))) (varM 3)))
  nilS))
  (setS 4 (bin2 addIF (varM 4) (varM 8))))))
  (retS (bin2 modF (varM 4) (varM 3)))))
def m_sum_of : List Vl → Sto → Res Vl := runM N_sum_of.length b_sum_of
def d_sum_of : He.DefD := ⟨("sum_of", none), "sum_of", "sum_of", defArgs s_sum_of, defBody s_sum_of, defScope s_sum_of, [], []⟩
theorem sc_sum_of : FnScope N_sum_of N_sum_of_ps (defScope s_sum_of) := ⟨rfl, rfl, rfl, by decide +kernel, rfl, by decide +kernel, by decide +kernel⟩
/-! ### made -/
abbrev s_made : Stmt := top 31
abbrev N_made : List Str := ["values", "states", "numbers", "modulus", "terms"]
abbrev N_made_ps : List Str := ["values", "states", "numbers", "modulus"]
def b_made : SM :=
  (retS (cB tupF (consA (compM (seqI (varM 0)) [4] (tfN 4) yesT (callM m_sum_of (consA (varM 4) (consA (varM 1) (consA (varM 2) (consA (varM 3) nilA)))))) nilA)))
def m_made : List Vl → Sto → Res Vl := runM N_made.length b_made
def d_made : He.DefD := ⟨("made", none), "made", "made", defArgs s_made, defBody s_made, defScope s_made, [], []⟩
theorem sc_made : FnScope N_made N_made_ps (defScope s_made) := ⟨rfl, rfl, rfl, by decide +kernel, rfl, by decide +kernel, by decide +kernel⟩
/-! ### values_along -/
abbrev s_values_along : Stmt := top 39
abbrev N_values_along : List Str := ["grammar", "steps", "known", "modulus", "found", "index", "step", "states", "place"]
abbrev N_values_along_ps : List Str := ["grammar", "steps", "known"]
def b_values_along : SM :=
  (seqS (parVO 3 4 (bin2 shlF (cM (.int 1)) (fldM 0 "width" (varM 0))) (lstM nilA))
  (seqS (forS (enI (consA (varM 1) nilA)) (tfT (tfCons (tfN 5) (tfCons (tfN 6) tfNil)))
  (ifS (tv (bin2 inF (varM 5) (varM 2)))
  (appO 4 (bin2 ixF (varM 2) (varM 5)))
  (seqS (setS 7 (compM (seqI (bin2 ixF (varM 6) (cM (.int 1)))) [8] (tfN 8) yesT (bin2 ixF (varL 4) (varM 8))))
  (appO 4 (callM m_made (consA (bin2 ixF (methM 0 "rule_named" m_Grammar_rule_named (varM 0) (consA (bin2 ixF (varM 6) (cM (.int 0))) nilA)) (cM (.int 4))) (consA (varM 7) (consA (bin2 ixF (varM 6) (cM (.int 2))) (consA (varM 3) nilA)))))))))
  (retV 4)))
def m_values_along : List Vl → Sto → Res Vl := runM N_values_along.length b_values_along
def d_values_along : He.DefD := ⟨("values_along", none), "values_along", "values_along", defArgs s_values_along, defBody s_values_along, defScope s_values_along, [], []⟩
theorem sc_values_along : FnScope N_values_along N_values_along_ps (defScope s_values_along) := ⟨rfl, rfl, rfl, by decide +kernel, rfl, by decide +kernel, by decide +kernel⟩
/-! ### value -/
abbrev s_value : Stmt := top 40
abbrev N_value : List Str := ["grammar", "tree"]
abbrev N_value_ps : List Str := ["grammar", "tree"]
def b_value : SM :=
  (seqS (exprS (callM m_kinds_of (consA (varM 0) (consA (varM 1) nilA))))
  (retS (bin2 ixF (callM m_values_along (consA (varM 0) (consA (varM 1) (consA dNew nilA)))) (un1 negF (cM (.int 1))))))
def m_value : List Vl → Sto → Res Vl := runM N_value.length b_value
def d_value : He.DefD := ⟨("value", none), "value", "value", defArgs s_value, defBody s_value, defScope s_value, [], []⟩
theorem sc_value : FnScope N_value N_value_ps (defScope s_value) := ⟨rfl, rfl, rfl, by decide +kernel, rfl, by decide +kernel, by decide +kernel⟩
/-! ### counted -/
abbrev s_counted : Stmt := top 42
abbrev N_counted : List Str := ["steps", "own", "found", "step", "number", "place"]
abbrev N_counted_ps : List Str := ["steps", "own"]
def b_counted : SM :=
  (seqS (ownS 2 (lstM nilA))
  (seqS (forS (zpI (consA (varM 0) (consA (varM 1) nilA))) (tfT (tfCons (tfN 3) (tfCons (tfN 4) tfNil)))
  (appO 2 (ifM (tv (bin2 eqF (cB lenF (consA (varM 3) nilA)) (cM (.int 3)))) (bin2 addF (varM 4) (cB sumF (consA (compM (seqI (bin2 ixF (varM 3) (cM (.int 1)))) [5] (tfN 5) yesT (bin2 ixF (varL 2) (varM 5))) nilA))) (varM 4))))
  (retS (bin2 ixF (varL 2) (un1 negF (cM (.int 1)))))))
def m_counted : List Vl → Sto → Res Vl := runM N_counted.length b_counted
def d_counted : He.DefD := ⟨("counted", none), "counted", "counted", defArgs s_counted, defBody s_counted, defScope s_counted, [], []⟩
theorem sc_counted : FnScope N_counted N_counted_ps (defScope s_counted) := ⟨rfl, rfl, rfl, by decide +kernel, rfl, by decide +kernel, by decide +kernel⟩
/-! ### count_nodes -/
abbrev s_count_nodes : Stmt := top 43
abbrev N_count_nodes : List Str := ["grammar", "tree"]
abbrev N_count_nodes_ps : List Str := ["grammar", "tree"]
def b_count_nodes : SM :=
  (seqS (exprS (callM m_kinds_of (consA (varM 0) (consA (varM 1) nilA))))
  (retS (callM m_counted (consA (varM 1) (consA (bin2 mulLF (lstM (consA (cM (.int 1)) nilA)) (cB lenF (consA (varM 1) nilA))) nilA)))))
def m_count_nodes : List Vl → Sto → Res Vl := runM N_count_nodes.length b_count_nodes
def d_count_nodes : He.DefD := ⟨("count_nodes", none), "count_nodes", "count_nodes", defArgs s_count_nodes, defBody s_count_nodes, defScope s_count_nodes, [], []⟩
theorem sc_count_nodes : FnScope N_count_nodes N_count_nodes_ps (defScope s_count_nodes) := ⟨rfl, rfl, rfl, by decide +kernel, rfl, by decide +kernel, by decide +kernel⟩
/-! ### _law_nodes -/
abbrev s__law_nodes : Stmt := top 59
abbrev N__law_nodes : List Str := ["_law_steps", "_law_found", "_law_name", "_law_places", "_law_numbers", "_law_place"]
abbrev N__law_nodes_ps : List Str := ["_law_steps"]
def b__law_nodes : SM :=
  (seqS (ownS 1 (lstM nilA))
  (seqS (forS (seqI (varM 0)) (tfT (tfCons (tfN 2) (tfCons (tfN 3) (tfCons (tfN 4) tfNil))))
  (appO 1 (bin2 addF (cM (.int 1)) (cB sumF (consA (compM (seqI (varM 3)) [5] (tfN 5) yesT (bin2 ixF (varL 1) (varM 5))) nilA)))))
  (retS (bin2 ixF (varL 1) (un1 negF (cM (.int 1)))))))
def m__law_nodes : List Vl → Sto → Res Vl := runM N__law_nodes.length b__law_nodes
def d__law_nodes : He.DefD := ⟨("_law_nodes", none), "_law_nodes", "_law_nodes", defArgs s__law_nodes, defBody s__law_nodes, defScope s__law_nodes, [], []⟩
theorem sc__law_nodes : FnScope N__law_nodes N__law_nodes_ps (defScope s__law_nodes) := ⟨rfl, rfl, rfl, by decide +kernel, rfl, by decide +kernel, by decide +kernel⟩
/-! ### _law_value -/
abbrev s__law_value : Stmt := top 58
abbrev N__law_value : List Str := ["_law_width", "_law_form_here", "_law_state", "_law_x", "_law_y"]
abbrev N__law_value_ps : List Str := ["_law_width", "_law_form_here", "_law_state"]
def b__law_value : SM :=
  (retS (bin2 modF (cB intF (consA (bin2 addF (bin2 ixF (varM 1) (cM (.int 0))) (cB sumF (consA (compM (zpI (consA (slM (varM 1) (oS (cM (.int 1))) oN) (consA (varM 2) nilA))) [3, 4] (tfT (tfCons (tfN 3) (tfCons (tfN 4) tfNil))) yesT (bin2 mulF (varM 3) (varM 4))) nilA))) nilA)) (bin2 shlF (cM (.int 1)) (varM 0))))
def m__law_value : List Vl → Sto → Res Vl := runM N__law_value.length b__law_value
def d__law_value : He.DefD := ⟨("_law_value", none), "_law_value", "_law_value", defArgs s__law_value, defBody s__law_value, defScope s__law_value, [], []⟩
theorem sc__law_value : FnScope N__law_value N__law_value_ps (defScope s__law_value) := ⟨rfl, rfl, rfl, by decide +kernel, rfl, by decide +kernel, by decide +kernel⟩
/-! ### NotTop.__init__ -/
abbrev s_NotTop___init__ : Stmt := mth 5 0
abbrev N_NotTop___init__ : List Str := ["self", "kind"]
abbrev N_NotTop___init___ps : List Str := ["self", "kind"]
def d_NotTop___init__ : He.DefD := ⟨("NotTop", some "__init__"), "__init__", "NotTop.__init__", defArgs s_NotTop___init__, defBody s_NotTop___init__, defScope s_NotTop___init__, [], []⟩
theorem sc_NotTop___init__ : FnScope N_NotTop___init__ N_NotTop___init___ps (defScope s_NotTop___init__) := ⟨rfl, rfl, rfl, by decide +kernel, rfl, by decide +kernel, by decide +kernel⟩
/-! ### value_of -/
abbrev s_value_of : Stmt := top 32
abbrev N_value_of : List Str := ["form", "state", "modulus", "one", "other"]
abbrev N_value_of_ps : List Str := ["form", "state", "modulus"]
def b_value_of : SM :=
  (retS (bin2 modF (bin2 addF (bin2 ixF (varM 0) (cM (.int 0))) (cB sumF (consA (compM (zpI (consA (slM (varM 0) (oS (cM (.int 1))) oN) (consA (varM 1) nilA))) [3, 4] (tfT (tfCons (tfN 3) (tfCons (tfN 4) tfNil))) yesT (bin2 mulF (varM 3) (varM 4))) nilA))) (varM 2)))
def m_value_of : List Vl → Sto → Res Vl := runM N_value_of.length b_value_of
def d_value_of : He.DefD := ⟨("value_of", none), "value_of", "value_of", defArgs s_value_of, defBody s_value_of, defScope s_value_of, [], []⟩
theorem sc_value_of : FnScope N_value_of N_value_of_ps (defScope s_value_of) := ⟨rfl, rfl, rfl, by decide +kernel, rfl, by decide +kernel, by decide +kernel⟩
/-! ### answers_of -/
abbrev s_answers_of : Stmt := top 41
abbrev N_answers_of : List Str := ["grammar", "tree", "kind", "state", "form"]
abbrev N_answers_of_ps : List Str := ["grammar", "tree"]
def b_answers_of : SM :=
  (seqS (setS 2 (callM m_kind_of (consA (varM 0) (consA (varM 1) nilA))))
  (seqS (ifS (tv (bin2 neF (varM 2) (fldM 0 "top" (varM 0))))
  (raiS 1 ["kind"] (consA (varM 2) nilA))
  nilS)
  (seqS (setS 3 (bin2 ixF (callM m_values_along (consA (varM 0) (consA (varM 1) (consA dNew nilA)))) (un1 negF (cM (.int 1)))))
  (retW (compM (seqI (fldM 0 "answers" (varM 0))) [4] (tfN 4) yesT (callM m_value_of (consA (varM 4) (consA (varM 3) (consA (bin2 shlF (cM (.int 1)) (fldM 0 "width" (varM 0))) nilA)))))))))
def m_answers_of : List Vl → Sto → Res Vl := runM N_answers_of.length b_answers_of
def d_answers_of : He.DefD := ⟨("answers_of", none), "answers_of", "answers_of", defArgs s_answers_of, defBody s_answers_of, defScope s_answers_of, [], []⟩
theorem sc_answers_of : FnScope N_answers_of N_answers_of_ps (defScope s_answers_of) := ⟨rfl, rfl, rfl, by decide +kernel, rfl, by decide +kernel, by decide +kernel⟩
/-! ### _law_told -/
abbrev s__law_told : Stmt := top 57
abbrev N__law_told : List Str := ["_law_grammar", "_law_tree", "_law_found", "e"]
abbrev N__law_told_ps : List Str := ["_law_grammar", "_law_tree"]
def b__law_told : SM :=
  (seqS (setS 2 cMn)
  (seqS (tryS (tblOf 1 []) 3 2 m_answers_of (consA (varM 0) (consA (varM 1) nilA)) (hAsg 2 (.f "kind")))
  (retS (varM 2))))
def m__law_told : List Vl → Sto → Res Vl := runM N__law_told.length b__law_told
def d__law_told : He.DefD := ⟨("_law_told", none), "_law_told", "_law_told", defArgs s__law_told, defBody s__law_told, defScope s__law_told, [], []⟩
theorem sc__law_told : FnScope N__law_told N__law_told_ps (defScope s__law_told) := ⟨rfl, rfl, rfl, by decide +kernel, rfl, by decide +kernel, by decide +kernel⟩
/-! ### _law_right -/
abbrev s__law_right : Stmt := top 60
abbrev N__law_right : List Str := ["_law_well", "_law_width", "_law_kinds_here", "_law_rules_here", "_law_top", "_law_answers_here", "_law_grammar", "_law_steps", "_law_sorts", "_law_states", "_law_many", "_law_tree", "_law_due", "_law_told_here", "_law_form_here"]
abbrev N__law_right_ps : List Str := ["_law_well"]
def b__law_right : SM :=
  (seqS (setS 1 (callM m__law_one (consA (varM 0) (consA (lstM (consA (cM (.int 1)) (consA (cM (.int 2)) (consA (cM (.int 8)) (consA (cM (.int 33)) (consA (cM (.int 64)) nilA)))))) nilA))))
  (seqS (setS 2 (callM m__law_kinds (consA (varM 0) (consA (cM (.int 5)) (consA (cM (.int 3)) nilA)))))
  (seqS (setS 3 (callM m__law_rules (consA (varM 0) (consA (varM 1) (consA (varM 2) (consA (cM (.int 7)) nilA))))))
  (seqS (setS 4 (bin2 ixF (callM m__law_one (consA (varM 0) (consA (varM 2) nilA))) (cM (.int 0))))
  (seqS (setS 5 (callM m__law_answers (consA (varM 0) (consA (varM 1) (consA (varM 2) (consA (varM 4) nilA))))))
  (seqS (setS 6 (makeM m_Grammar___init__ (consA (varM 1) (consA (varM 2) (consA (varM 3) (consA (varM 4) (consA (varM 5) nilA)))))))
  (seqS (unpS [7, 8] (callM m__law_grown (consA (varM 0) (consA (varM 3) (consA (cM (.int 30)) nilA)))))
  (seqS (setS 9 (callM m__law_along (consA (varM 1) (consA (varM 3) (consA (varM 7) nilA)))))
  (seqS (forS (rngI (consA (cM (.int 1)) (consA (bin2 addF (cB lenF (consA (varM 7) nilA)) (cM (.int 1))) nilA))) (tfN 10)
  (seqS (setS 11 (slM (varM 7) oN (oS (varM 10))))
  (seqS (ifS (orT (tv (bin2 neF (callM m_value (consA (varM 6) (consA (varM 11) nilA))) (bin2 ixF (varM 9) (bin2 subF (varM 10) (cM (.int 1)))))) (tv (bin2 neF (callM m_kind_of (consA (varM 6) (consA (varM 11) nilA))) (bin2 ixF (varM 8) (bin2 subF (varM 10) (cM (.int 1)))))))
  (retS (cM (.bl false)))
  nilS)
  (seqS (ifS (tv (bin2 neF (callM m_count_nodes (consA (varM 6) (consA (cB tupF (consA (varM 11) nilA)) nilA))) (callM m__law_nodes (consA (varM 11) nilA))))
  (retS (cM (.bl false)))
  nilS)
  (seqS (setS 12 (bin2 ixF (varM 8) (bin2 subF (varM 10) (cM (.int 1)))))
  (seqS (ifS (tv (bin2 eqF (varM 12) (varM 4)))
  (setS 12 (compM (seqI (varM 5)) [14] (tfN 14) yesT (callM m__law_value (consA (varM 1) (consA (varM 14) (consA (bin2 ixF (varM 9) (bin2 subF (varM 10) (cM (.int 1)))) nilA))))))
  nilS)
  (seqS (setS 13 (callM m__law_told (consA (varM 6) (consA (varM 11) nilA))))
  (seqS (ifS (tv (bin2 neF (varM 13) (varM 12)))
  (retS (cM (.bl false)))
  nilS)
  (ifS (tv (isiM [.lst] (varM 13)))
  (seqS (appR 13 cMn)
  (ifS (tv (bin2 neF (callM m_answers_of (consA (varM 6) (consA (cB tupF (consA (varM 11) nilA)) nilA))) (varM 12)))
  (retS (cM (.bl false)))
  nilS))
  nilS)))))))))
  (retS (cM (.bl true))))))))))))
def m__law_right : List Vl → Sto → Res Vl := runM N__law_right.length b__law_right
def d__law_right : He.DefD := ⟨("_law_right", none), "_law_right", "_law_right", defArgs s__law_right, defBody s__law_right, defScope s__law_right, [], []⟩
theorem sc__law_right : FnScope N__law_right N__law_right_ps (defScope s__law_right) := ⟨rfl, rfl, rfl, by decide +kernel, rfl, by decide +kernel, by decide +kernel⟩
/-! ### law -/
abbrev s_law : Stmt := top 61
abbrev N_law : List Str := ["_law_script", "_law_k", "_law_cell", "_law_well"]
abbrev N_law_ps : List Str := ["_law_script"]
def b_law : SM :=
  (seqS (forS (enI (consA (slM (bin2 catSF (varM 0) (lstM (consA (cM (.int 0)) nilA))) oN (oS (cM (.int 5)))) nilA)) (tfT (tfCons (tfN 1) (tfCons (tfN 2) tfNil)))
  (seqS (newS 3 (lstM (consA (bin2 mulF (varM 2) (cB intF (consA (bin2 geF (varM 2) (bin2 powF (cM (.int 10)) (cM (.int 18)))) nilA))) (consA (bin2 addF (bin2 modF (cB intF (consA (varM 2) nilA)) (cM (.int 2147483647))) (bin2 mulF (cM (.int 7919)) (varM 1))) (consA (cM (.int 0)) nilA)))))
  (ifS (notT (tv (callM m__law_right (consA (varM 3) nilA))))
  (retS (cM (.bl false)))
  nilS)))
  (retS (cM (.bl true))))
def m_law : List Vl → Sto → Res Vl := runM N_law.length b_law
def d_law : He.DefD := ⟨("law", none), "law", "law", defArgs s_law, defBody s_law, defScope s_law, [], []⟩
theorem sc_law : FnScope N_law N_law_ps (defScope s_law) := ⟨rfl, rfl, rfl, by decide +kernel, rfl, by decide +kernel, by decide +kernel⟩
def fa : List He.Fa := [.free "enumerate",
  .free "int",
  .glo "_law_draw",
  .free "len",
  .glo "_law_one",
  .free "range",
  .free "tuple",
  .glo "_law_kinds",
  .free "dict",
  .glo "_law_number",
  .glo "_law_sum",
  .glo "_law_rule",
  .glo "_law_rules",
  .glo "_law_form",
  .glo "_law_answers",
  .free "isinstance",
  .free "bool",
  .glo "is_int",
  .glo "is_from",
  .int "MAX_WIDTH" (64),
  .int "MAX_KINDS" (5),
  .free "list",
  .free "all",
  .str "LETTERS" "abcdefghijklmnopqrstuvwxyz",
  .int "MAX_NAME" (8),
  .free "str",
  .glo "is_name",
  .glo "are_names",
  .int "MAX_ATTRIBUTES" (3),
  .glo "check_kinds",
  .int "MAX_RULES" (12),
  .int "MAX_CHILDREN" (2),
  .int "MAX_NUMBERS" (2),
  .free "zip",
  .glo "is_term",
  .glo "are_sums",
  .glo "is_rule",
  .int "MAX_ANSWERS" (4),
  .glo "is_form",
  .glo "check_grammar",
  .cls "Grammar",
  .noat "Grammar" "width",
  .noat "Grammar" "kinds",
  .glo "reduced_sums",
  .noat "Grammar" "rules",
  .noat "Grammar" "top",
  .glo "reduced",
  .noat "Grammar" "answers",
  .mkr "Grammar",
  .glo "Grammar",
  .glo "_law_grown",
  .glo "_law_made",
  .glo "_law_along",
  .int "MAX_STEPS" (2000),
  .glo "are_steps",
  .meth "Grammar" "rule_named",
  .glo "is_step",
  .glo "kinds_of",
  .glo "kind_of",
  .glo "sum_of",
  .glo "made",
  .glo "values_along",
  .glo "value",
  .free "sum",
  .glo "counted",
  .glo "count_nodes",
  .glo "_law_nodes",
  .glo "_law_value",
  .glo "NotTop",
  .glo "AttrError",
  .glo "value_of",
  .glo "answers_of",
  .glo "_law_told",
  .glo "_law_right",
  .glo "law"]
def fn : List He.DefD := [d__law_draw, d__law_one, d__law_kinds, d__law_number, d__law_sum, d__law_rule, d__law_rules, d__law_form, d__law_answers, d_is_int, d_is_from, d_is_name, d_are_names, d_check_kinds, d_is_term, d_are_sums, d_is_rule, d_is_form, d_check_grammar, d_reduced_sums, d_reduced, d_Grammar___init__, d__law_grown, d__law_made, d__law_along, d_are_steps, d_Grammar_rule_named, d_is_step, d_kinds_of, d_kind_of, d_sum_of, d_made, d_values_along, d_value, d_counted, d_count_nodes, d__law_nodes, d__law_value, d_NotTop___init__, d_value_of, d_answers_of, d__law_told, d__law_right, d_law]
/-- a class with its own == and no != -/
def fx_eq (C : Str) : Fx := fun K => He.eqO (PySem.W.findIn K (.ref (He.ga K C)) "__eq__") (some (some (.ref (He.fAd K (C, some "__eq__"))))) && (PySem.W.isFn K (.ref (He.fAd K (C, some "__eq__"))) &&
  (He.eqO (PySem.W.findIn K (.ref (He.ga K C)) "__ne__") (some (some (.builtin "object.__ne__"))) && (decide (PySem.W.subIn K (.ref (He.ga K C)) (.type "object") = some true) &&
    ([Ty.non, .bool, .int, .str, .tup, .lst, .dic].all fun t => PySem.W.notFirst K (He.ga K C) (.type t.nm)))))
theorem fx_eq_ok {C : Str} {K : PySem.W.Frag} (h : fx_eq C K = true) : EqC K (He.ga K C) (He.fAd K (C, some "__eq__")) := by
  obtain ⟨h1, h⟩ := He.ba h
  obtain ⟨h2, h⟩ := He.ba h
  obtain ⟨h3, h⟩ := He.ba h
  obtain ⟨h4, h5⟩ := He.ba h
  refine ⟨He.eqO_ok h1, h2, He.eqO_ok h3, of_decide_eq_true h4, fun t => List.all_eq_true.mp h5 t ?_⟩
  cases t <;> decide
/-- isinstance(.., C) -/
def fx_is (C : Str) : Fx := fun K => He.eqO (PySem.W.findIn K (.ref (He.ga K C)) "__class__") (some (some (.builtin "object.__class__"))) && (He.eqO (PySem.W.specialIn K (.builtin "object.__class__") "__get__") (some (some (.builtin "getset_descriptor.__get__"))) &&
  (decide (PySem.W.takesIn K (.builtin "object.__class__") = some true) && (decide (PySem.W.mroIn K (He.ga K C) (.type "object") = some true) && (decide (PySem.W.kitOne K (.ref (He.ga K C)) (.ref (He.ga K C)) = some true) &&
    ([Ty.non, .bool, .int, .str, .tup, .lst, .dic].all fun t => decide (PySem.W.kitOne K (.type t.nm) (.ref (He.ga K C)) = some false))))))
theorem fx_is_ok {C : Str} {K : PySem.W.Frag} (h : fx_is C K = true) (hc : Cls K (He.ga K C)) : IsC K (He.ga K C) ∧ PySem.W.kitOne K (.ref (He.ga K C)) (.ref (He.ga K C)) = some true ∧ ∀ t : Ty, PySem.W.kitOne K (.type t.nm) (.ref (He.ga K C)) = some false := by
  obtain ⟨h1, h⟩ := He.ba h
  obtain ⟨h2, h⟩ := He.ba h
  obtain ⟨h3, h⟩ := He.ba h
  obtain ⟨h4, h⟩ := He.ba h
  obtain ⟨h5, h6⟩ := He.ba h
  refine ⟨⟨hc, He.eqO_ok h1, He.eqO_ok h2, of_decide_eq_true h3, of_decide_eq_true h4⟩, of_decide_eq_true h5, fun t => of_decide_eq_true (List.all_eq_true.mp h6 t ?_)⟩
  cases t <;> decide

def fx : List Fx := [fx_oex "NotTop", fx_no "NotTop" "kind", fx_aei "AttrError", fx_exm "NotTop" "NotTop" true]
theorem ok__law_draw {P : Program} {w : World} {K : PySem.W.Frag} {mg : Str → Option Value} {base h : Heap} (X : K.In h) (G : h.Ns mainGlobals mg) (c : SaysX fx fa fn K) :
    ∃ fd, FunD K "_law_draw" "_law_draw" (defArgs s__law_draw) (defBody s__law_draw) (defScope s__law_draw) [] [] (He.fAd K ("_law_draw", none)) fd ∧ FnOk P w K mg base (L2.CX P w) 1 (He.fAd K ("_law_draw", none)) fd N__law_draw_ps (spM K (cl K) 2 m__law_draw) := by
  obtain ⟨fd, F⟩ := c.d.def_ 0 (d := d__law_draw) rfl
  have g_int : mg "int" = none := He.free_ok X G (c.d.fact 1 (f := .free "int") rfl)
  exact ⟨fd, F, fn_ok F sc__law_draw (b := b__law_draw) <| fun cdv A outer s H E hr => by
    have hu := L2.hu_of hr
    exact (ds_cons (ds_if (dt_cmp op_gt (s_cmp _) (sl (de_ix (o_ix hu) s_ix (sl (de_var (pv 0))) (sl de_int) (fun _ _ => rfl))) (sl de_int) (nomark _))
  (ds_cons (ds_set (ps_set sc__law_draw.nd rfl (Or.inl rfl) (de_op op_mod s_mod (sl (de_callTy call_int1 s_int rfl g_int b_int (la_cons (sl (de_ix (o_ix hu) s_ix (sl (de_var (pv 0))) (sl de_int) (fun _ _ => rfl))) la_nil))) (sl (de_var (pv 1))))) (fun _ _ _ z => z))
  (ds_cons (ds_setR (ps_asg (de_op op_fdivW s_fdiv (sl (de_ix (o_ix hu) s_ix (sl (de_var (pv 0))) (sl de_int) (fun _ _ => rfl))) (sl (de_var (pv 1)))) (pg_sub (de_var (pv 0)) de_int set_list)) (fun _ _ _ z => z) (fun _ _ _ z => z) (fun _ _ _ z => z))
  (ds_one (ds_ret (de_var (pv 2))))))
  ds_nil)
  (ds_cons (ds_setR (ps_asg (de_op o_add s_add (sl (de_ix (o_ix hu) s_ix (sl (de_var (pv 0))) (sl de_int) (fun _ _ => rfl))) (sl de_int)) (pg_sub (de_var (pv 0)) de_int set_list)) (fun _ _ _ z => z) (fun _ _ _ z => z) (fun _ _ _ z => z))
  (ds_cons (ds_set (ps_set sc__law_draw.nd rfl (Or.inl rfl) (de_op op_mod s_mod (sl (de_callTy call_int1 s_int rfl g_int b_int (la_cons (sl (de_op o_mul s_mul (sl (de_op o_add s_add (sl (de_op o_add s_add (sl (de_ix (o_ix hu) s_ix (sl (de_var (pv 0))) (sl de_int) (fun _ _ => rfl))) (sl (de_op o_mul s_mul (sl de_int) (sl (de_ix (o_ix hu) s_ix (sl (de_var (pv 0))) (sl de_int) (fun _ _ => rfl))))))) (sl de_int))) (sl de_int))) la_nil))) (sl de_int))) (fun _ _ _ z => z))
  (ds_cons (ds_set (ps_set sc__law_draw.nd rfl (Or.inl rfl) (de_op op_mod s_mod (sl (de_callTy call_int1 s_int rfl g_int b_int (la_cons (sl (de_op o_mul s_mul (sl (de_var (pv 3))) (sl (de_op o_add s_add (sl (de_op op_fdivW s_fdiv (sl (de_var (pv 3))) (sl de_int))) (sl de_int))))) la_nil))) (sl de_int))) (fun _ _ _ z => z))
  (ds_one (ds_ret (de_op op_mod s_mod (sl (de_callTy call_int1 s_int rfl g_int b_int (la_cons (sl (de_op op_mod s_mod (sl (de_callTy call_int1 s_int rfl g_int b_int (la_cons (sl (de_op o_mul s_mul (sl (de_var (pv 3))) (sl (de_op o_add s_add (sl (de_op op_fdivW s_fdiv (sl (de_var (pv 3))) (sl de_int))) (sl de_int))))) la_nil))) (sl de_int))) la_nil))) (sl (de_var (pv 1))))))))))⟩
theorem ok__law_one {P : Program} {w : World} {K : PySem.W.Frag} {mg : Str → Option Value} {base h : Heap} (X : K.In h) (G : h.Ns mainGlobals mg) (c : SaysX fx fa fn K) :
    ∃ fd, FunD K "_law_one" "_law_one" (defArgs s__law_one) (defBody s__law_one) (defScope s__law_one) [] [] (He.fAd K ("_law_one", none)) fd ∧ FnOk P w K mg base (L2.CX P w) 2 (He.fAd K ("_law_one", none)) fd N__law_one_ps (spM K (cl K) 2 m__law_one) := by
  obtain ⟨fd, F⟩ := c.d.def_ 1 (d := d__law_one) rfl
  obtain ⟨fd__law_draw, F__law_draw, O__law_draw⟩ := ok__law_draw (P := P) (w := w) (base := base) X G c
  have gg__law_draw : mg "_law_draw" = some (.ref (He.fAd K ("_law_draw", none))) := He.glo_ok X G (c.d.fact 2 (f := .glo "_law_draw") rfl)
  have B__law_draw : Binds K fd__law_draw N__law_draw_ps [] := F__law_draw.bindsN fun _ _ _ _ _ _ us hl => match us, hl with | [_, _], _ => rfl
  have g_len : mg "len" = none := He.free_ok X G (c.d.fact 3 (f := .free "len") rfl)
  exact ⟨fd, F, fn_ok F sc__law_one (b := b__law_one) <| fun cdv A outer s H E hr => by
    have hu := L2.hu_of hr
    exact (ds_one (ds_ret (de_ix (o_ix hu) s_ix (sl (de_var (pv 1))) (sl (d_call O__law_draw (hr.mono (by decide)) rfl gg__law_draw F__law_draw.kp B__law_draw passB (da_cons (de_var (pv 0)) (da_cons (de_callB o_len s_len rfl g_len b_len (la_cons (sl (de_var (pv 1))) la_nil)) da_nil)) (lenA_cons (lenA_cons lenA_nil)))) (fun _ _ => rfl))))⟩
theorem ok__law_kinds {P : Program} {w : World} {K : PySem.W.Frag} {mg : Str → Option Value} {base h : Heap} (X : K.In h) (G : h.Ns mainGlobals mg) (c : SaysX fx fa fn K) :
    ∃ fd, FunD K "_law_kinds" "_law_kinds" (defArgs s__law_kinds) (defBody s__law_kinds) (defScope s__law_kinds) [] [] (He.fAd K ("_law_kinds", none)) fd ∧ FnOk P w K mg base (L2.CX P w) 2 (He.fAd K ("_law_kinds", none)) fd N__law_kinds_ps (spM K (cl K) 3 m__law_kinds) := by
  obtain ⟨fd, F⟩ := c.d.def_ 2 (d := d__law_kinds) rfl
  have g_range : mg "range" = none := He.free_ok X G (c.d.fact 5 (f := .free "range") rfl)
  obtain ⟨fd__law_draw, F__law_draw, O__law_draw⟩ := ok__law_draw (P := P) (w := w) (base := base) X G c
  have gg__law_draw : mg "_law_draw" = some (.ref (He.fAd K ("_law_draw", none))) := He.glo_ok X G (c.d.fact 2 (f := .glo "_law_draw") rfl)
  have B__law_draw : Binds K fd__law_draw N__law_draw_ps [] := F__law_draw.bindsN fun _ _ _ _ _ _ us hl => match us, hl with | [_, _], _ => rfl
  have g_tuple : mg "tuple" = none := He.free_ok X G (c.d.fact 6 (f := .free "tuple") rfl)
  exact ⟨fd, F, fn_ok F sc__law_kinds (b := b__law_kinds) <| fun cdv A outer s H E hr => by
    have hu := L2.hu_of hr
    exact (ds_cons (ds_par (ps_par rfl sc__law_kinds.nd rfl rfl (by decide) rfl rfl (pa_cons (ns (dn_lst (da_cons de_str (da_cons de_str (da_cons de_str (da_cons de_str (da_cons de_str da_nil))))) (lenA_cons (lenA_cons (lenA_cons (lenA_cons (lenA_cons lenA_nil))))))) (pa_cons (ns (dn_lst (da_cons de_str (da_cons de_str (da_cons de_str da_nil))) (lenA_cons (lenA_cons (lenA_cons lenA_nil))))) pa_nil)) rfl) (fun _ _ _ z => z) (fun _ _ _ z => z))
  (ds_cons (ds_own (ps_set sc__law_kinds.nd rfl (Or.inl rfl) (dn_lst da_nil lenA_nil)) (fun _ _ _ z => z))
  (ds_cons (ds_for passO rfl (di_rng1 rfl g_range (da_cons (de_op o_add s_add (sl de_int) (sl (d_call O__law_draw (hr.mono (by decide)) rfl gg__law_draw F__law_draw.kp B__law_draw passB (da_cons (de_var (pv 0)) (da_cons (de_var (pv 1)) da_nil)) (lenA_cons (lenA_cons lenA_nil))))) da_nil) (lenA_cons lenA_nil)) (pg_name sc__law_kinds.nd rfl (Or.inl rfl)) (tg_name 6)
  (ds_one (ds_appO (ps_expr (pe_bm PySem.F.plainAttrs_list PySem.F.slot_list_append PySem.F.type_list_append mt_append (pv 5) (pa_cons (de_tup (da_cons (de_ix (o_ix hu) s_ix (sl (de_var (pv 3))) (sl (de_var (pv 6))) (fun _ _ => rfl)) (da_cons (de_callTy call_tuple_of s_tup rfl g_tuple b_tuple (la_cons (sl (de_sl (sl (de_var (pv 4))) do_none (do_some (de_op o_add s_add (sl de_int) (sl (d_call O__law_draw (hr.mono (by decide)) rfl gg__law_draw F__law_draw.kp B__law_draw passB (da_cons (de_var (pv 0)) (da_cons (de_var (pv 2)) da_nil)) (lenA_cons (lenA_cons lenA_nil)))))))) la_nil)) da_nil)) (lenA_cons (lenA_cons lenA_nil))) pa_nil))) (fun _ _ _ z => z))))
  (ds_one (ds_retV (pv 5))))))⟩
theorem ok__law_number {P : Program} {w : World} {K : PySem.W.Frag} {mg : Str → Option Value} {base h : Heap} (X : K.In h) (G : h.Ns mainGlobals mg) (c : SaysX fx fa fn K) :
    ∃ fd, FunD K "_law_number" "_law_number" (defArgs s__law_number) (defBody s__law_number) (defScope s__law_number) [] [] (He.fAd K ("_law_number", none)) fd ∧ FnOk P w K mg base (L2.CX P w) 2 (He.fAd K ("_law_number", none)) fd N__law_number_ps (spM K (cl K) 2 m__law_number) := by
  obtain ⟨fd, F⟩ := c.d.def_ 3 (d := d__law_number) rfl
  obtain ⟨fd__law_draw, F__law_draw, O__law_draw⟩ := ok__law_draw (P := P) (w := w) (base := base) X G c
  have gg__law_draw : mg "_law_draw" = some (.ref (He.fAd K ("_law_draw", none))) := He.glo_ok X G (c.d.fact 2 (f := .glo "_law_draw") rfl)
  have B__law_draw : Binds K fd__law_draw N__law_draw_ps [] := F__law_draw.bindsN fun _ _ _ _ _ _ us hl => match us, hl with | [_, _], _ => rfl
  have g_int : mg "int" = none := He.free_ok X G (c.d.fact 1 (f := .free "int") rfl)
  exact ⟨fd, F, fn_ok F sc__law_number (b := b__law_number) <| fun cdv A outer s H E hr => by
    have hu := L2.hu_of hr
    exact (ds_cons (ds_set (ps_set sc__law_number.nd rfl (Or.inl rfl) (de_op o_add s_add (sl (de_op o_mul s_mul (sl (d_call O__law_draw (hr.mono (by decide)) rfl gg__law_draw F__law_draw.kp B__law_draw passB (da_cons (de_var (pv 0)) (da_cons (de_op op_pow s_pow (sl de_int) (sl de_int)) da_nil)) (lenA_cons (lenA_cons lenA_nil)))) (sl (de_op op_pow s_pow (sl de_int) (sl de_int))))) (sl (d_call O__law_draw (hr.mono (by decide)) rfl gg__law_draw F__law_draw.kp B__law_draw passB (da_cons (de_var (pv 0)) (da_cons (de_op op_pow s_pow (sl de_int) (sl de_int)) da_nil)) (lenA_cons (lenA_cons lenA_nil)))))) (fun _ _ _ z => z))
  (ds_cons (ds_set (ps_set sc__law_number.nd rfl (Or.inl rfl) (ns (dn_lst (da_cons de_int (da_cons de_int (da_cons de_int (da_cons de_int (da_cons de_int (da_cons (de_op op_sub s_sub (sl (de_op op_shl s_shl (sl de_int) (sl (de_var (pv 1))))) (sl de_int)) (da_cons (de_op op_fdivW s_fdiv (sl (de_op op_shl s_shl (sl de_int) (sl (de_var (pv 1))))) (sl de_int)) (da_cons (de_var (pv 2)) da_nil)))))))) (lenA_cons (lenA_cons (lenA_cons (lenA_cons (lenA_cons (lenA_cons (lenA_cons (lenA_cons lenA_nil))))))))))) (fun _ _ _ z => z))
  (ds_one (ds_ret (de_op op_mod s_mod (sl (de_callTy call_int1 s_int rfl g_int b_int (la_cons (sl (de_ix (o_ix hu) s_ix (sl (de_var (pv 3))) (sl (d_call O__law_draw (hr.mono (by decide)) rfl gg__law_draw F__law_draw.kp B__law_draw passB (da_cons (de_var (pv 0)) (da_cons de_int da_nil)) (lenA_cons (lenA_cons lenA_nil)))) (fun _ _ => rfl))) la_nil))) (sl (de_op op_shl s_shl (sl de_int) (sl (de_var (pv 1))))))))))⟩
theorem ok__law_sum {P : Program} {w : World} {K : PySem.W.Frag} {mg : Str → Option Value} {base h : Heap} (X : K.In h) (G : h.Ns mainGlobals mg) (c : SaysX fx fa fn K) :
    ∃ fd, FunD K "_law_sum" "_law_sum" (defArgs s__law_sum) (defBody s__law_sum) (defScope s__law_sum) [] [] (He.fAd K ("_law_sum", none)) fd ∧ FnOk P w K mg base (L2.CX P w) 3 (He.fAd K ("_law_sum", none)) fd N__law_sum_ps (spM K (cl K) 4 m__law_sum) := by
  obtain ⟨fd, F⟩ := c.d.def_ 4 (d := d__law_sum) rfl
  have g_range : mg "range" = none := He.free_ok X G (c.d.fact 5 (f := .free "range") rfl)
  obtain ⟨fd__law_draw, F__law_draw, O__law_draw⟩ := ok__law_draw (P := P) (w := w) (base := base) X G c
  have gg__law_draw : mg "_law_draw" = some (.ref (He.fAd K ("_law_draw", none))) := He.glo_ok X G (c.d.fact 2 (f := .glo "_law_draw") rfl)
  have B__law_draw : Binds K fd__law_draw N__law_draw_ps [] := F__law_draw.bindsN fun _ _ _ _ _ _ us hl => match us, hl with | [_, _], _ => rfl
  have g_tuple : mg "tuple" = none := He.free_ok X G (c.d.fact 6 (f := .free "tuple") rfl)
  obtain ⟨fd__law_number, F__law_number, O__law_number⟩ := ok__law_number (P := P) (w := w) (base := base) X G c
  have gg__law_number : mg "_law_number" = some (.ref (He.fAd K ("_law_number", none))) := He.glo_ok X G (c.d.fact 9 (f := .glo "_law_number") rfl)
  have B__law_number : Binds K fd__law_number N__law_number_ps [] := F__law_number.bindsN fun _ _ _ _ _ _ us hl => match us, hl with | [_, _], _ => rfl
  exact ⟨fd, F, fn_ok F sc__law_sum (b := b__law_sum) <| fun cdv A outer s H E hr => by
    have hu := L2.hu_of hr
    exact (ds_cons (ds_own (ps_set sc__law_sum.nd rfl (Or.inl rfl) (dn_lst da_nil lenA_nil)) (fun _ _ _ z => z))
  (ds_cons (ds_for passO rfl (di_rng1 rfl g_range (da_cons (d_call O__law_draw (hr.mono (by decide)) rfl gg__law_draw F__law_draw.kp B__law_draw passB (da_cons (de_var (pv 0)) (da_cons (de_ix (o_ix hu) s_ix (nl (dn_lst (da_cons de_int (da_cons de_int (da_cons de_int (da_cons de_int da_nil)))) (lenA_cons (lenA_cons (lenA_cons (lenA_cons lenA_nil)))))) (sl (d_call O__law_draw (hr.mono (by decide)) rfl gg__law_draw F__law_draw.kp B__law_draw passB (da_cons (de_var (pv 0)) (da_cons de_int da_nil)) (lenA_cons (lenA_cons lenA_nil)))) (fun _ _ => rfl)) da_nil)) (lenA_cons (lenA_cons lenA_nil))) da_nil) (lenA_cons lenA_nil)) (pg_name sc__law_sum.nd rfl (Or.inl rfl)) (tg_name 5)
  (ds_cons (ds_set (ps_set sc__law_sum.nd rfl (Or.inl rfl) (de_callTy call_tuple_of s_tup rfl g_tuple b_tuple (la_cons (nl (dn_lc (own := [("_law_size", 7)]) rfl sc__law_sum.nd (di_seqL (sl (de_var (pv 2)))) (blkOk_by (own := [("_law_size", 7)]) (by kernel_rfl)) (fun _ _ _ _ _ => (pg_name sc__law_sum.nd rfl (Or.inl rfl))) (tg_name 7) (fun _ _ _ _ _ => pts_nil) (fun _ _ _ z => yes_t z) (fun _ _ _ _ _ => (de_op op_sub s_sub (sl (d_call O__law_draw (hr.mono (by decide)) rfl gg__law_draw F__law_draw.kp B__law_draw passL (da_cons (de_var (pv 0)) (da_cons (de_op o_add s_add (sl (de_var (pv 7))) (sl de_int)) da_nil)) (lenA_cons (lenA_cons lenA_nil)))) (sl de_int))))) la_nil))) (fun _ _ _ z => z))
  (ds_one (ds_appO (ps_expr (pe_bm PySem.F.plainAttrs_list PySem.F.slot_list_append PySem.F.type_list_append mt_append (pv 4) (pa_cons (de_tup (da_cons (d_call O__law_number (hr.mono (by decide)) rfl gg__law_number F__law_number.kp B__law_number passB (da_cons (de_var (pv 0)) (da_cons (de_var (pv 1)) da_nil)) (lenA_cons (lenA_cons lenA_nil))) (da_cons (de_var (pv 6)) (da_cons (de_op op_sub s_sub (sl (d_call O__law_draw (hr.mono (by decide)) rfl gg__law_draw F__law_draw.kp B__law_draw passB (da_cons (de_var (pv 0)) (da_cons (de_op o_add s_add (sl (de_var (pv 3))) (sl de_int)) da_nil)) (lenA_cons (lenA_cons lenA_nil)))) (sl de_int)) da_nil))) (lenA_cons (lenA_cons (lenA_cons lenA_nil)))) pa_nil))) (fun _ _ _ z => z)))))
  (ds_one (ds_ret (de_callTy call_tuple_of s_tup rfl g_tuple b_tuple (la_cons (de_varL (pv 4)) la_nil))))))⟩
theorem ok__law_rule {P : Program} {w : World} {K : PySem.W.Frag} {mg : Str → Option Value} {base h : Heap} (X : K.In h) (G : h.Ns mainGlobals mg) (c : SaysX fx fa fn K) :
    ∃ fd, FunD K "_law_rule" "_law_rule" (defArgs s__law_rule) (defBody s__law_rule) (defScope s__law_rule) [] [] (He.fAd K ("_law_rule", none)) fd ∧ FnOk P w K mg base (L2.CX P w) 4 (He.fAd K ("_law_rule", none)) fd N__law_rule_ps (spM K (cl K) 6 m__law_rule) := by
  obtain ⟨fd, F⟩ := c.d.def_ 5 (d := d__law_rule) rfl
  have g_dict : mg "dict" = none := He.free_ok X G (c.d.fact 8 (f := .free "dict") rfl)
  have g_len : mg "len" = none := He.free_ok X G (c.d.fact 3 (f := .free "len") rfl)
  obtain ⟨fd__law_draw, F__law_draw, O__law_draw⟩ := ok__law_draw (P := P) (w := w) (base := base) X G c
  have gg__law_draw : mg "_law_draw" = some (.ref (He.fAd K ("_law_draw", none))) := He.glo_ok X G (c.d.fact 2 (f := .glo "_law_draw") rfl)
  have B__law_draw : Binds K fd__law_draw N__law_draw_ps [] := F__law_draw.bindsN fun _ _ _ _ _ _ us hl => match us, hl with | [_, _], _ => rfl
  have g_tuple : mg "tuple" = none := He.free_ok X G (c.d.fact 6 (f := .free "tuple") rfl)
  have g_range : mg "range" = none := He.free_ok X G (c.d.fact 5 (f := .free "range") rfl)
  obtain ⟨fd__law_sum, F__law_sum, O__law_sum⟩ := ok__law_sum (P := P) (w := w) (base := base) X G c
  have gg__law_sum : mg "_law_sum" = some (.ref (He.fAd K ("_law_sum", none))) := He.glo_ok X G (c.d.fact 10 (f := .glo "_law_sum") rfl)
  have B__law_sum : Binds K fd__law_sum N__law_sum_ps [] := F__law_sum.bindsN fun _ _ _ _ _ _ us hl => match us, hl with | [_, _, _, _], _ => rfl
  exact ⟨fd, F, fn_ok F sc__law_rule (b := b__law_rule) <| fun cdv A outer s H E hr => by
    have hu := L2.hu_of hr
    exact (ds_cons (ds_set (ps_set sc__law_rule.nd rfl (Or.inr rfl) (ns (dn_callTy (call_dictP rfl) s_dict rfl g_dict b_dict (la_cons (nl (dn_lc (own := [("_law_one_here", 11), ("_law_names", 12)]) rfl sc__law_rule.nd (di_seqL (sl (de_var (pv 2)))) (blkOk_by (own := [("_law_one_here", 11), ("_law_names", 12)]) (by kernel_rfl)) (fun _ _ _ _ _ => (pg_tup rfl (pgs_cons (pg_name sc__law_rule.nd rfl (Or.inl rfl)) (pgs_cons (pg_name sc__law_rule.nd rfl (Or.inl rfl)) pgs_nil)))) (tg_tup (tgs_cons (tg_name 11) (tgs_cons (tg_name 12) tgs_nil)) (tfl_cons (tfl_cons tfl_nil))) (fun _ _ _ _ _ => pts_nil) (fun _ _ _ z => yes_t z) (fun _ _ _ _ _ => (de_tup (da_cons (de_var (pv 11)) (da_cons (de_callB o_len s_len rfl g_len b_len (la_cons (sl (de_var (pv 12))) la_nil)) da_nil)) (lenA_cons (lenA_cons lenA_nil)))))) la_nil)))) (fun _ _ _ z => z))
  (ds_cons (ds_set (ps_set sc__law_rule.nd rfl (Or.inr rfl) (d_call O__law_draw (hr.mono (by decide)) rfl gg__law_draw F__law_draw.kp B__law_draw passB (da_cons (de_var (pv 0)) (da_cons de_int da_nil)) (lenA_cons (lenA_cons lenA_nil)))) (fun _ _ _ z => z))
  (ds_cons (ds_set (ps_set sc__law_rule.nd rfl (Or.inr rfl) (ns (dn_lc (own := [("_law_child", 10)]) rfl sc__law_rule.nd (di_seqL (sl (de_var (pv 5)))) (blkOk_by (own := [("_law_child", 10)]) (by kernel_rfl)) (fun _ _ _ _ _ => (pg_name sc__law_rule.nd rfl (Or.inl rfl))) (tg_name 10) (fun _ _ _ _ _ => pts_nil) (fun _ _ _ z => yes_t z) (fun _ _ _ _ _ => (de_ix (o_ix hu) s_ix (sl (de_var (pv 6))) (sl (de_var (pv 10))) (fun _ _ => rfl)))))) (fun _ _ _ z => z))
  (ds_cons (ds_set (ps_set sc__law_rule.nd rfl (Or.inl rfl) (de_callTy call_tuple_of s_tup rfl g_tuple b_tuple (la_cons (nl (dn_lc (own := [("_law_turn", 13)]) rfl sc__law_rule.nd (di_rng1 rfl g_range (da_cons (de_ix (o_ix hu) s_ix (sl (de_var (pv 6))) (sl (de_var (pv 4))) (fun _ _ => rfl)) da_nil) (lenA_cons lenA_nil)) (blkOk_by (own := [("_law_turn", 13)]) (by kernel_rfl)) (fun _ _ _ _ _ => (pg_name sc__law_rule.nd rfl (Or.inl rfl))) (tg_name 13) (fun _ _ _ _ _ => pts_nil) (fun _ _ _ z => yes_t z) (fun _ _ _ _ _ => (d_call O__law_sum (hr.mono (by decide)) rfl gg__law_sum F__law_sum.kp B__law_sum passL (da_cons (de_var (pv 0)) (da_cons (de_var (pv 1)) (da_cons (de_var (pv 8)) (da_cons (de_var (pv 7)) da_nil)))) (lenA_cons (lenA_cons (lenA_cons (lenA_cons lenA_nil)))))))) la_nil))) (fun _ _ _ z => z))
  (ds_one (ds_ret (de_tup (da_cons (de_var (pv 3)) (da_cons (de_var (pv 4)) (da_cons (de_var (pv 5)) (da_cons (de_var (pv 7)) (da_cons (de_var (pv 9)) da_nil))))) (lenA_cons (lenA_cons (lenA_cons (lenA_cons (lenA_cons lenA_nil))))))))))))⟩
theorem ok__law_rules {P : Program} {w : World} {K : PySem.W.Frag} {mg : Str → Option Value} {base h : Heap} (X : K.In h) (G : h.Ns mainGlobals mg) (c : SaysX fx fa fn K) :
    ∃ fd, FunD K "_law_rules" "_law_rules" (defArgs s__law_rules) (defBody s__law_rules) (defScope s__law_rules) [] [] (He.fAd K ("_law_rules", none)) fd ∧ FnOk P w K mg base (L2.CX P w) 5 (He.fAd K ("_law_rules", none)) fd N__law_rules_ps (spM K (cl K) 4 m__law_rules) := by
  obtain ⟨fd, F⟩ := c.d.def_ 6 (d := d__law_rules) rfl
  obtain ⟨fd__law_draw, F__law_draw, O__law_draw⟩ := ok__law_draw (P := P) (w := w) (base := base) X G c
  have gg__law_draw : mg "_law_draw" = some (.ref (He.fAd K ("_law_draw", none))) := He.glo_ok X G (c.d.fact 2 (f := .glo "_law_draw") rfl)
  have B__law_draw : Binds K fd__law_draw N__law_draw_ps [] := F__law_draw.bindsN fun _ _ _ _ _ _ us hl => match us, hl with | [_, _], _ => rfl
  obtain ⟨fd__law_rule, F__law_rule, O__law_rule⟩ := ok__law_rule (P := P) (w := w) (base := base) X G c
  have gg__law_rule : mg "_law_rule" = some (.ref (He.fAd K ("_law_rule", none))) := He.glo_ok X G (c.d.fact 11 (f := .glo "_law_rule") rfl)
  have B__law_rule : Binds K fd__law_rule N__law_rule_ps [] := F__law_rule.bindsN fun _ _ _ _ _ _ us hl => match us, hl with | [_, _, _, _, _, _], _ => rfl
  have g_len : mg "len" = none := He.free_ok X G (c.d.fact 3 (f := .free "len") rfl)
  have g_range : mg "range" = none := He.free_ok X G (c.d.fact 5 (f := .free "range") rfl)
  have g_tuple : mg "tuple" = none := He.free_ok X G (c.d.fact 6 (f := .free "tuple") rfl)
  obtain ⟨fd__law_one, F__law_one, O__law_one⟩ := ok__law_one (P := P) (w := w) (base := base) X G c
  have gg__law_one : mg "_law_one" = some (.ref (He.fAd K ("_law_one", none))) := He.glo_ok X G (c.d.fact 4 (f := .glo "_law_one") rfl)
  have B__law_one : Binds K fd__law_one N__law_one_ps [] := F__law_one.bindsN fun _ _ _ _ _ _ us hl => match us, hl with | [_, _], _ => rfl
  exact ⟨fd, F, fn_ok F sc__law_rules (b := b__law_rules) <| fun cdv A outer s H E hr => by
    have hu := L2.hu_of hr
    exact (ds_cons (ds_parVO (ps_par rfl sc__law_rules.nd rfl rfl (by decide) rfl rfl (pa_cons (ns (dn_lst (da_cons de_str (da_cons de_str (da_cons de_str (da_cons de_str (da_cons de_str (da_cons de_str (da_cons de_str (da_cons de_str (da_cons de_str (da_cons de_str (da_cons de_str (da_cons de_str da_nil)))))))))))) (lenA_cons (lenA_cons (lenA_cons (lenA_cons (lenA_cons (lenA_cons (lenA_cons (lenA_cons (lenA_cons (lenA_cons (lenA_cons (lenA_cons lenA_nil)))))))))))))) (pa_cons (dn_lst da_nil lenA_nil) pa_nil)) rfl) (fun _ _ _ z => z) (fun _ _ _ z => z))
  (ds_cons (ds_for passO rfl (di_seq (de_var (pv 2))) (pg_tup rfl (pgs_cons (pg_name sc__law_rules.nd rfl (Or.inl rfl)) (pgs_cons (pg_name sc__law_rules.nd rfl (Or.inl rfl)) pgs_nil))) (tg_tup (tgs_cons (tg_name 6) (tgs_cons (tg_name 7) tgs_nil)) (tfl_cons (tfl_cons tfl_nil)))
  (ds_one (ds_if (PW.pt (dw_or (dt_cmp (op_eqD hr.units) s_eq (de_varL (pv 5)) (nl (dn_lst da_nil lenA_nil)) (nomark _)) (dw_or1 (dt_cmp op_gt (s_cmp _) (sl (d_call O__law_draw (hr.mono (by decide)) rfl gg__law_draw F__law_draw.kp B__law_draw passB (da_cons (de_var (pv 0)) (da_cons de_int da_nil)) (lenA_cons (lenA_cons lenA_nil)))) (sl de_int) (nomark _)))))
  (ds_one (ds_appO (ps_expr (pe_bm PySem.F.plainAttrs_list PySem.F.slot_list_append PySem.F.type_list_append mt_append (pv 5) (pa_cons (d_call O__law_rule (hr.mono (by decide)) rfl gg__law_rule F__law_rule.kp B__law_rule passB (da_cons (de_var (pv 0)) (da_cons (de_var (pv 1)) (da_cons (de_var (pv 2)) (da_cons (de_ix (o_ix hu) s_ix (sl (de_var (pv 4))) (sl (de_callB o_len s_len rfl g_len b_len (la_cons (de_varL (pv 5)) la_nil))) (fun _ _ => rfl)) (da_cons (de_var (pv 6)) (da_cons (de_tup da_nil lenA_nil) da_nil)))))) (lenA_cons (lenA_cons (lenA_cons (lenA_cons (lenA_cons (lenA_cons lenA_nil))))))) pa_nil))) (fun _ _ _ z => z)))
  ds_nil)))
  (ds_cons (ds_for passO rfl (di_rng1 rfl g_range (da_cons (de_op o_add s_add (sl de_int) (sl (d_call O__law_draw (hr.mono (by decide)) rfl gg__law_draw F__law_draw.kp B__law_draw passB (da_cons (de_var (pv 0)) (da_cons (de_var (pv 3)) da_nil)) (lenA_cons (lenA_cons lenA_nil))))) da_nil) (lenA_cons lenA_nil)) (pg_name sc__law_rules.nd rfl (Or.inl rfl)) (tg_name 8)
  (ds_cons (ds_set (ps_set sc__law_rules.nd rfl (Or.inl rfl) (de_callTy call_tuple_of s_tup rfl g_tuple b_tuple (la_cons (nl (dn_lc (own := [("_law_one_here", 10)]) rfl sc__law_rules.nd (di_rng1 rfl g_range (da_cons (de_op o_add s_add (sl de_int) (sl (d_call O__law_draw (hr.mono (by decide)) rfl gg__law_draw F__law_draw.kp B__law_draw passB (da_cons (de_var (pv 0)) (da_cons de_int da_nil)) (lenA_cons (lenA_cons lenA_nil))))) da_nil) (lenA_cons lenA_nil)) (blkOk_by (own := [("_law_one_here", 10)]) (by kernel_rfl)) (fun _ _ _ _ _ => (pg_name sc__law_rules.nd rfl (Or.inl rfl))) (tg_name 10) (fun _ _ _ _ _ => pts_nil) (fun _ _ _ z => yes_t z) (fun _ _ _ _ _ => (de_ix (o_ix hu) s_ix (sl (d_call O__law_one (hr.mono (by decide)) rfl gg__law_one F__law_one.kp B__law_one passL (da_cons (de_var (pv 0)) (da_cons (de_var (pv 2)) da_nil)) (lenA_cons (lenA_cons lenA_nil)))) (sl de_int) (fun _ _ => rfl))))) la_nil))) (fun _ _ _ z => z))
  (ds_one (ds_appO (ps_expr (pe_bm PySem.F.plainAttrs_list PySem.F.slot_list_append PySem.F.type_list_append mt_append (pv 5) (pa_cons (d_call O__law_rule (hr.mono (by decide)) rfl gg__law_rule F__law_rule.kp B__law_rule passB (da_cons (de_var (pv 0)) (da_cons (de_var (pv 1)) (da_cons (de_var (pv 2)) (da_cons (de_ix (o_ix hu) s_ix (sl (de_var (pv 4))) (sl (de_callB o_len s_len rfl g_len b_len (la_cons (de_varL (pv 5)) la_nil))) (fun _ _ => rfl)) (da_cons (de_ix (o_ix hu) s_ix (sl (d_call O__law_one (hr.mono (by decide)) rfl gg__law_one F__law_one.kp B__law_one passB (da_cons (de_var (pv 0)) (da_cons (de_var (pv 2)) da_nil)) (lenA_cons (lenA_cons lenA_nil)))) (sl de_int) (fun _ _ => rfl)) (da_cons (de_var (pv 9)) da_nil)))))) (lenA_cons (lenA_cons (lenA_cons (lenA_cons (lenA_cons (lenA_cons lenA_nil))))))) pa_nil))) (fun _ _ _ z => z)))))
  (ds_one (ds_retV (pv 5))))))⟩
theorem ok__law_form {P : Program} {w : World} {K : PySem.W.Frag} {mg : Str → Option Value} {base h : Heap} (X : K.In h) (G : h.Ns mainGlobals mg) (c : SaysX fx fa fn K) :
    ∃ fd, FunD K "_law_form" "_law_form" (defArgs s__law_form) (defBody s__law_form) (defScope s__law_form) [] [] (He.fAd K ("_law_form", none)) fd ∧ FnOk P w K mg base (L2.CX P w) 3 (He.fAd K ("_law_form", none)) fd N__law_form_ps (spM K (cl K) 3 m__law_form) := by
  obtain ⟨fd, F⟩ := c.d.def_ 7 (d := d__law_form) rfl
  have g_tuple : mg "tuple" = none := He.free_ok X G (c.d.fact 6 (f := .free "tuple") rfl)
  have g_range : mg "range" = none := He.free_ok X G (c.d.fact 5 (f := .free "range") rfl)
  obtain ⟨fd__law_number, F__law_number, O__law_number⟩ := ok__law_number (P := P) (w := w) (base := base) X G c
  have gg__law_number : mg "_law_number" = some (.ref (He.fAd K ("_law_number", none))) := He.glo_ok X G (c.d.fact 9 (f := .glo "_law_number") rfl)
  have B__law_number : Binds K fd__law_number N__law_number_ps [] := F__law_number.bindsN fun _ _ _ _ _ _ us hl => match us, hl with | [_, _], _ => rfl
  have g_int : mg "int" = none := He.free_ok X G (c.d.fact 1 (f := .free "int") rfl)
  obtain ⟨fd__law_draw, F__law_draw, O__law_draw⟩ := ok__law_draw (P := P) (w := w) (base := base) X G c
  have gg__law_draw : mg "_law_draw" = some (.ref (He.fAd K ("_law_draw", none))) := He.glo_ok X G (c.d.fact 2 (f := .glo "_law_draw") rfl)
  have B__law_draw : Binds K fd__law_draw N__law_draw_ps [] := F__law_draw.bindsN fun _ _ _ _ _ _ us hl => match us, hl with | [_, _], _ => rfl
  exact ⟨fd, F, fn_ok F sc__law_form (b := b__law_form) <| fun cdv A outer s H E hr => by
    have hu := L2.hu_of hr
    exact (ds_one (ds_ret (de_callTy call_tuple_of s_tup rfl g_tuple b_tuple (la_cons (nl (dn_lc (own := [("_law_turn", 3)]) rfl sc__law_form.nd (di_rng1 rfl g_range (da_cons (de_op o_add s_add (sl (de_var (pv 2))) (sl de_int)) da_nil) (lenA_cons lenA_nil)) (blkOk_by (own := [("_law_turn", 3)]) (by kernel_rfl)) (fun _ _ _ _ _ => (pg_name sc__law_form.nd rfl (Or.inl rfl))) (tg_name 3) (fun _ _ _ _ _ => pts_nil) (fun _ _ _ z => yes_t z) (fun _ _ _ _ _ => (de_op o_mul s_mul (sl (d_call O__law_number (hr.mono (by decide)) rfl gg__law_number F__law_number.kp B__law_number passL (da_cons (de_var (pv 0)) (da_cons (de_var (pv 1)) da_nil)) (lenA_cons (lenA_cons lenA_nil)))) (sl (de_callTy call_int1 s_int rfl g_int b_int (la_cons (sl (de_cmp op_gt (s_cmp _) (sl (d_call O__law_draw (hr.mono (by decide)) rfl gg__law_draw F__law_draw.kp B__law_draw passL (da_cons (de_var (pv 0)) (da_cons de_int da_nil)) (lenA_cons (lenA_cons lenA_nil)))) (sl de_int) (nomark _))) la_nil))))))) la_nil))))⟩
theorem ok__law_answers {P : Program} {w : World} {K : PySem.W.Frag} {mg : Str → Option Value} {base h : Heap} (X : K.In h) (G : h.Ns mainGlobals mg) (c : SaysX fx fa fn K) :
    ∃ fd, FunD K "_law_answers" "_law_answers" (defArgs s__law_answers) (defBody s__law_answers) (defScope s__law_answers) [] [] (He.fAd K ("_law_answers", none)) fd ∧ FnOk P w K mg base (L2.CX P w) 4 (He.fAd K ("_law_answers", none)) fd N__law_answers_ps (spM K (cl K) 4 m__law_answers) := by
  obtain ⟨fd, F⟩ := c.d.def_ 8 (d := d__law_answers) rfl
  have g_len : mg "len" = none := He.free_ok X G (c.d.fact 3 (f := .free "len") rfl)
  have g_dict : mg "dict" = none := He.free_ok X G (c.d.fact 8 (f := .free "dict") rfl)
  have g_range : mg "range" = none := He.free_ok X G (c.d.fact 5 (f := .free "range") rfl)
  obtain ⟨fd__law_draw, F__law_draw, O__law_draw⟩ := ok__law_draw (P := P) (w := w) (base := base) X G c
  have gg__law_draw : mg "_law_draw" = some (.ref (He.fAd K ("_law_draw", none))) := He.glo_ok X G (c.d.fact 2 (f := .glo "_law_draw") rfl)
  have B__law_draw : Binds K fd__law_draw N__law_draw_ps [] := F__law_draw.bindsN fun _ _ _ _ _ _ us hl => match us, hl with | [_, _], _ => rfl
  obtain ⟨fd__law_form, F__law_form, O__law_form⟩ := ok__law_form (P := P) (w := w) (base := base) X G c
  have gg__law_form : mg "_law_form" = some (.ref (He.fAd K ("_law_form", none))) := He.glo_ok X G (c.d.fact 13 (f := .glo "_law_form") rfl)
  have B__law_form : Binds K fd__law_form N__law_form_ps [] := F__law_form.bindsN fun _ _ _ _ _ _ us hl => match us, hl with | [_, _, _], _ => rfl
  exact ⟨fd, F, fn_ok F sc__law_answers (b := b__law_answers) <| fun cdv A outer s H E hr => by
    have hu := L2.hu_of hr
    exact (ds_cons (ds_set (ps_set sc__law_answers.nd rfl (Or.inr rfl) (de_callB o_len s_len rfl g_len b_len (la_cons (sl (de_ix (o_ix hu) s_ix (nl (dn_callTy (call_dictP rfl) s_dict rfl g_dict b_dict (la_cons (sl (de_var (pv 2))) la_nil))) (sl (de_var (pv 3))) (fun _ _ => rfl))) la_nil))) (fun _ _ _ z => z))
  (ds_one (ds_ret (ns (dn_lc (own := [("_law_turn", 5)]) rfl sc__law_answers.nd (di_rng1 rfl g_range (da_cons (de_op o_add s_add (sl de_int) (sl (d_call O__law_draw (hr.mono (by decide)) rfl gg__law_draw F__law_draw.kp B__law_draw passB (da_cons (de_var (pv 0)) (da_cons de_int da_nil)) (lenA_cons (lenA_cons lenA_nil))))) da_nil) (lenA_cons lenA_nil)) (blkOk_by (own := [("_law_turn", 5)]) (by kernel_rfl)) (fun _ _ _ _ _ => (pg_name sc__law_answers.nd rfl (Or.inl rfl))) (tg_name 5) (fun _ _ _ _ _ => pts_nil) (fun _ _ _ z => yes_t z) (fun _ _ _ _ _ => (d_call O__law_form (hr.mono (by decide)) rfl gg__law_form F__law_form.kp B__law_form passL (da_cons (de_var (pv 0)) (da_cons (de_var (pv 1)) (da_cons (de_var (pv 4)) da_nil))) (lenA_cons (lenA_cons (lenA_cons lenA_nil))))))))))⟩
theorem ok_is_int {P : Program} {w : World} {K : PySem.W.Frag} {mg : Str → Option Value} {base h : Heap} (X : K.In h) (G : h.Ns mainGlobals mg) (c : SaysX fx fa fn K) :
    ∃ fd, FunD K "is_int" "is_int" (defArgs s_is_int) (defBody s_is_int) (defScope s_is_int) [] [] (He.fAd K ("is_int", none)) fd ∧ FnOk P w K mg base (L2.CX P w) 1 (He.fAd K ("is_int", none)) fd N_is_int_ps (spM K (cl K) 1 m_is_int) := by
  obtain ⟨fd, F⟩ := c.d.def_ 9 (d := d_is_int) rfl
  have g_isinstance : mg "isinstance" = none := He.free_ok X G (c.d.fact 15 (f := .free "isinstance") rfl)
  have g_bool : mg "bool" = none := He.free_ok X G (c.d.fact 16 (f := .free "bool") rfl)
  have g_int : mg "int" = none := He.free_ok X G (c.d.fact 1 (f := .free "int") rfl)
  exact ⟨fd, F, fn_ok F sc_is_int (b := b_is_int) <| fun cdv A outer s H E hr => by
    have hu := L2.hu_of hr
    exact (ds_one (ds_ret (de_and (de_isi1 (t := .int) (sl (de_var (pv 0))) (pe_bltn rfl g_int b_int rfl) rfl g_isinstance b_isinstance) (de_one (de_not (de_isi1 (t := .bool) (sl (de_var (pv 0))) (pe_bltn rfl g_bool b_bool rfl) rfl g_isinstance b_isinstance))))))⟩
theorem ok_is_from {P : Program} {w : World} {K : PySem.W.Frag} {mg : Str → Option Value} {base h : Heap} (X : K.In h) (G : h.Ns mainGlobals mg) (c : SaysX fx fa fn K) :
    ∃ fd, FunD K "is_from" "is_from" (defArgs s_is_from) (defBody s_is_from) (defScope s_is_from) [] [] (He.fAd K ("is_from", none)) fd ∧ FnOk P w K mg base (L2.CX P w) 2 (He.fAd K ("is_from", none)) fd N_is_from_ps (spM K (cl K) 3 m_is_from) := by
  obtain ⟨fd, F⟩ := c.d.def_ 10 (d := d_is_from) rfl
  obtain ⟨fd_is_int, F_is_int, O_is_int⟩ := ok_is_int (P := P) (w := w) (base := base) X G c
  have gg_is_int : mg "is_int" = some (.ref (He.fAd K ("is_int", none))) := He.glo_ok X G (c.d.fact 17 (f := .glo "is_int") rfl)
  have B_is_int : Binds K fd_is_int N_is_int_ps [] := F_is_int.bindsN fun _ _ _ _ _ _ us hl => match us, hl with | [_], _ => rfl
  exact ⟨fd, F, fn_ok F sc_is_from (b := b_is_from) <| fun cdv A outer s H E hr => by
    have hu := L2.hu_of hr
    exact (ds_one (ds_ret (de_and (d_call O_is_int (hr.mono (by decide)) rfl gg_is_int F_is_int.kp B_is_int passB (da_cons (de_var (pv 0)) da_nil) (lenA_cons lenA_nil)) (de_one (de_ch op_le op_le (s_cmp _) (s_cmp _) (sl (de_var (pv 1))) (sl (de_var (pv 0))) (sl (de_var (pv 2))))))))⟩
theorem ok_is_name {P : Program} {w : World} {K : PySem.W.Frag} {mg : Str → Option Value} {base h : Heap} (X : K.In h) (G : h.Ns mainGlobals mg) (c : SaysX fx fa fn K) :
    ∃ fd, FunD K "is_name" "is_name" (defArgs s_is_name) (defBody s_is_name) (defScope s_is_name) [] [] (He.fAd K ("is_name", none)) fd ∧ FnOk P w K mg base (L2.CX P w) 1 (He.fAd K ("is_name", none)) fd N_is_name_ps (spM K (cl K) 1 m_is_name) := by
  obtain ⟨fd, F⟩ := c.d.def_ 11 (d := d_is_name) rfl
  have g_all : mg "all" = none := He.free_ok X G (c.d.fact 22 (f := .free "all") rfl)
  obtain ⟨_, g_LETTERS⟩ := He.str_ok X G (c.d.fact 23 (f := .str "LETTERS" "abcdefghijklmnopqrstuvwxyz") rfl)
  have g_len : mg "len" = none := He.free_ok X G (c.d.fact 3 (f := .free "len") rfl)
  obtain ⟨_, g_MAX_NAME⟩ := He.int_ok X G (c.d.fact 24 (f := .int "MAX_NAME" (8)) rfl)
  have g_isinstance : mg "isinstance" = none := He.free_ok X G (c.d.fact 15 (f := .free "isinstance") rfl)
  have g_str : mg "str" = none := He.free_ok X G (c.d.fact 25 (f := .free "str") rfl)
  exact ⟨fd, F, fn_ok F sc_is_name (b := b_is_name) <| fun cdv A outer s H E hr => by
    have hu := L2.hu_of hr
    exact (ds_one (ds_ret (de_and (de_isi1 (t := .str) (sl (de_var (pv 0))) (pe_bltn rfl g_str b_str rfl) rfl g_isinstance b_isinstance) (de_and (de_ch op_le op_le (s_cmp _) (s_cmp _) (sl de_int) (sl (de_callB o_len s_len rfl g_len b_len (la_cons (sl (de_var (pv 0))) la_nil))) (sl (de_c (v := .int 8) (pe_glob rfl g_MAX_NAME ⟨_, rfl⟩) fun _ _ _ => .int _))) (de_one (de_callB (cr_all rfl) s_all rfl g_all b_all (la_cons (nl (dn_lc (own := [("sign", 1)]) rfl sc_is_name.nd (di_str (de_var (pv 0))) (blkOk_by (own := [("sign", 1)]) (by kernel_rfl)) (fun _ _ _ _ _ => (pg_name sc_is_name.nd rfl (Or.inl rfl))) (tg_name 1) (fun _ _ _ _ _ => pts_nil) (fun _ _ _ z => yes_t z) (fun _ _ _ _ _ => (de_cmp (o_in hu) s_in (sl (de_var (pv 1))) (sl (de_c (v := .str "abcdefghijklmnopqrstuvwxyz") (pe_glob rfl g_LETTERS ⟨_, rfl⟩) fun _ _ _ => .str _)) rfl)))) la_nil)))))))⟩
theorem ok_are_names {P : Program} {w : World} {K : PySem.W.Frag} {mg : Str → Option Value} {base h : Heap} (X : K.In h) (G : h.Ns mainGlobals mg) (c : SaysX fx fa fn K) :
    ∃ fd, FunD K "are_names" "are_names" (defArgs s_are_names) (defBody s_are_names) (defScope s_are_names) [] [] (He.fAd K ("are_names", none)) fd ∧ FnOk P w K mg base (L2.CX P w) 2 (He.fAd K ("are_names", none)) fd N_are_names_ps (spM K (cl K) 2 m_are_names) := by
  obtain ⟨fd, F⟩ := c.d.def_ 12 (d := d_are_names) rfl
  have g_len : mg "len" = none := He.free_ok X G (c.d.fact 3 (f := .free "len") rfl)
  have g_isinstance : mg "isinstance" = none := He.free_ok X G (c.d.fact 15 (f := .free "isinstance") rfl)
  have g_tuple : mg "tuple" = none := He.free_ok X G (c.d.fact 6 (f := .free "tuple") rfl)
  have g_all : mg "all" = none := He.free_ok X G (c.d.fact 22 (f := .free "all") rfl)
  have g_enumerate : mg "enumerate" = none := He.free_ok X G (c.d.fact 0 (f := .free "enumerate") rfl)
  obtain ⟨fd_is_name, F_is_name, O_is_name⟩ := ok_is_name (P := P) (w := w) (base := base) X G c
  have gg_is_name : mg "is_name" = some (.ref (He.fAd K ("is_name", none))) := He.glo_ok X G (c.d.fact 26 (f := .glo "is_name") rfl)
  have B_is_name : Binds K fd_is_name N_is_name_ps [] := F_is_name.bindsN fun _ _ _ _ _ _ us hl => match us, hl with | [_], _ => rfl
  exact ⟨fd, F, fn_ok F sc_are_names (b := b_are_names) <| fun cdv A outer s H E hr => by
    have hu := L2.hu_of hr
    exact (ds_cons (ds_if (PW.pt (dw_or (dt_not (dt_val (de_isi1 (t := .tup) (sl (de_var (pv 0))) (pe_bltn rfl g_tuple b_tuple rfl) rfl g_isinstance b_isinstance))) (dw_or1 (dt_not (dt_ch op_le op_le (s_cmp _) (s_cmp _) (sl de_int) (sl (de_callB o_len s_len rfl g_len b_len (la_cons (sl (de_var (pv 0))) la_nil))) (sl (de_var (pv 1))))))))
  (ds_one (ds_ret de_bl))
  ds_nil)
  (ds_one (ds_ret (de_callB (cr_all rfl) s_all rfl g_all b_all (la_cons (nl (dn_lc (own := [("at", 2), ("one", 3)]) rfl sc_are_names.nd (di_enL rfl g_enumerate (la_cons (sl (de_var (pv 0))) la_nil)) (blkOk_by (own := [("at", 2), ("one", 3)]) (by kernel_rfl)) (fun _ _ _ _ _ => (pg_tup rfl (pgs_cons (pg_name sc_are_names.nd rfl (Or.inl rfl)) (pgs_cons (pg_name sc_are_names.nd rfl (Or.inl rfl)) pgs_nil)))) (tg_tup (tgs_cons (tg_name 2) (tgs_cons (tg_name 3) tgs_nil)) (tfl_cons (tfl_cons tfl_nil))) (fun _ _ _ _ _ => pts_nil) (fun _ _ _ z => yes_t z) (fun _ _ _ _ _ => (de_and (d_call O_is_name (hr.mono (by decide)) rfl gg_is_name F_is_name.kp B_is_name passL (da_cons (de_var (pv 3)) da_nil) (lenA_cons lenA_nil)) (de_one (de_cmp (o_notIn hu) s_notIn (sl (de_var (pv 3))) (sl (de_sl (sl (de_var (pv 0))) do_none (do_some (de_var (pv 2))))) rfl)))))) la_nil)))))⟩
theorem ok_check_kinds {P : Program} {w : World} {K : PySem.W.Frag} {mg : Str → Option Value} {base h : Heap} (X : K.In h) (G : h.Ns mainGlobals mg) (c : SaysX fx fa fn K) :
    ∃ fd, FunD K "check_kinds" "check_kinds" (defArgs s_check_kinds) (defBody s_check_kinds) (defScope s_check_kinds) [] [] (He.fAd K ("check_kinds", none)) fd ∧ FnOk P w K mg base (L2.CX P w) 3 (He.fAd K ("check_kinds", none)) fd N_check_kinds_ps (spM K (cl K) 1 m_check_kinds) := by
  obtain ⟨fd, F⟩ := c.d.def_ 13 (d := d_check_kinds) rfl
  have g_len : mg "len" = none := He.free_ok X G (c.d.fact 3 (f := .free "len") rfl)
  obtain ⟨_, g_MAX_KINDS⟩ := He.int_ok X G (c.d.fact 20 (f := .int "MAX_KINDS" (5)) rfl)
  have g_isinstance : mg "isinstance" = none := He.free_ok X G (c.d.fact 15 (f := .free "isinstance") rfl)
  have g_list : mg "list" = none := He.free_ok X G (c.d.fact 21 (f := .free "list") rfl)
  have g_tuple : mg "tuple" = none := He.free_ok X G (c.d.fact 6 (f := .free "tuple") rfl)
  have g_enumerate : mg "enumerate" = none := He.free_ok X G (c.d.fact 0 (f := .free "enumerate") rfl)
  obtain ⟨fd_is_name, F_is_name, O_is_name⟩ := ok_is_name (P := P) (w := w) (base := base) X G c
  have gg_is_name : mg "is_name" = some (.ref (He.fAd K ("is_name", none))) := He.glo_ok X G (c.d.fact 26 (f := .glo "is_name") rfl)
  have B_is_name : Binds K fd_is_name N_is_name_ps [] := F_is_name.bindsN fun _ _ _ _ _ _ us hl => match us, hl with | [_], _ => rfl
  obtain ⟨fd_are_names, F_are_names, O_are_names⟩ := ok_are_names (P := P) (w := w) (base := base) X G c
  have gg_are_names : mg "are_names" = some (.ref (He.fAd K ("are_names", none))) := He.glo_ok X G (c.d.fact 27 (f := .glo "are_names") rfl)
  have B_are_names : Binds K fd_are_names N_are_names_ps [] := F_are_names.bindsN fun _ _ _ _ _ _ us hl => match us, hl with | [_, _], _ => rfl
  obtain ⟨_, g_MAX_ATTRIBUTES⟩ := He.int_ok X G (c.d.fact 28 (f := .int "MAX_ATTRIBUTES" (3)) rfl)
  exact ⟨fd, F, fn_ok F sc_check_kinds (b := b_check_kinds) <| fun cdv A outer s H E hr => by
    have hu := L2.hu_of hr
    exact (ds_cons (ds_if (PW.pt (dw_or (dt_not (dt_val (de_isi2 (t := .lst) (t2 := .tup) (sl (de_var (pv 0))) (pe_bltn rfl g_list b_list rfl) (pe_bltn rfl g_tuple b_tuple rfl) rfl g_isinstance b_isinstance))) (dw_or1 (dt_not (dt_ch op_le op_le (s_cmp _) (s_cmp _) (sl de_int) (sl (de_callB o_len s_len rfl g_len b_len (la_cons (sl (de_var (pv 0))) la_nil))) (sl (de_c (v := .int 5) (pe_glob rfl g_MAX_KINDS ⟨_, rfl⟩) fun _ _ _ => .int _)))))))
  (ds_one ds_never)
  ds_nil)
  (ds_cons (ds_own (ps_set sc_check_kinds.nd rfl (Or.inl rfl) (dn_lst da_nil lenA_nil)) (fun _ _ _ z => z))
  (ds_one (ds_for passO rfl (di_en rfl g_enumerate (da_cons (de_var (pv 0)) da_nil)) (pg_tup rfl (pgs_cons (pg_name sc_check_kinds.nd rfl (Or.inl rfl)) (pgs_cons (pg_name sc_check_kinds.nd rfl (Or.inl rfl)) pgs_nil))) (tg_tup (tgs_cons (tg_name 2) (tgs_cons (tg_name 3) tgs_nil)) (tfl_cons (tfl_cons tfl_nil)))
  (ds_cons (ds_if (PW.pt (dw_or (dt_not (dt_val (de_isi1 (t := .tup) (sl (de_var (pv 3))) (pe_bltn rfl g_tuple b_tuple rfl) rfl g_isinstance b_isinstance))) (dw_or (dt_cmp (op_neD hr.units) s_ne (sl (de_callB o_len s_len rfl g_len b_len (la_cons (sl (de_var (pv 3))) la_nil))) (sl de_int) (nomark _)) (dw_or (dt_not (dt_val (d_call O_is_name (hr.mono (by decide)) rfl gg_is_name F_is_name.kp B_is_name passB (da_cons (de_ix (o_ix hu) s_ix (sl (de_var (pv 3))) (sl de_int) (fun _ _ => rfl)) da_nil) (lenA_cons lenA_nil)))) (dw_or1 (dt_cmp (o_in hu) s_in (sl (de_ix (o_ix hu) s_ix (sl (de_var (pv 3))) (sl de_int) (fun _ _ => rfl))) (de_varL (pv 1)) rfl))))))
  (ds_one ds_never)
  ds_nil)
  (ds_cons (ds_if (dt_not (dt_val (d_call O_are_names (hr.mono (by decide)) rfl gg_are_names F_are_names.kp B_are_names passB (da_cons (de_ix (o_ix hu) s_ix (sl (de_var (pv 3))) (sl de_int) (fun _ _ => rfl)) (da_cons (de_c (v := .int 3) (pe_glob rfl g_MAX_ATTRIBUTES ⟨_, rfl⟩) fun _ _ _ => .int _) da_nil)) (lenA_cons (lenA_cons lenA_nil)))))
  (ds_one ds_never)
  ds_nil)
  (ds_one (ds_appO (ps_expr (pe_bm PySem.F.plainAttrs_list PySem.F.slot_list_append PySem.F.type_list_append mt_append (pv 1) (pa_cons (de_ix (o_ix hu) s_ix (sl (de_var (pv 3))) (sl de_int) (fun _ _ => rfl)) pa_nil))) (fun _ _ _ z => z)))))))))⟩
theorem ok_is_term {P : Program} {w : World} {K : PySem.W.Frag} {mg : Str → Option Value} {base h : Heap} (X : K.In h) (G : h.Ns mainGlobals mg) (c : SaysX fx fa fn K) :
    ∃ fd, FunD K "is_term" "is_term" (defArgs s_is_term) (defBody s_is_term) (defScope s_is_term) [] [] (He.fAd K ("is_term", none)) fd ∧ FnOk P w K mg base (L2.CX P w) 3 (He.fAd K ("is_term", none)) fd N_is_term_ps (spM K (cl K) 3 m_is_term) := by
  obtain ⟨fd, F⟩ := c.d.def_ 14 (d := d_is_term) rfl
  obtain ⟨fd_is_int, F_is_int, O_is_int⟩ := ok_is_int (P := P) (w := w) (base := base) X G c
  have gg_is_int : mg "is_int" = some (.ref (He.fAd K ("is_int", none))) := He.glo_ok X G (c.d.fact 17 (f := .glo "is_int") rfl)
  have B_is_int : Binds K fd_is_int N_is_int_ps [] := F_is_int.bindsN fun _ _ _ _ _ _ us hl => match us, hl with | [_], _ => rfl
  have g_len : mg "len" = none := He.free_ok X G (c.d.fact 3 (f := .free "len") rfl)
  have g_isinstance : mg "isinstance" = none := He.free_ok X G (c.d.fact 15 (f := .free "isinstance") rfl)
  have g_tuple : mg "tuple" = none := He.free_ok X G (c.d.fact 6 (f := .free "tuple") rfl)
  have g_all : mg "all" = none := He.free_ok X G (c.d.fact 22 (f := .free "all") rfl)
  have g_zip : mg "zip" = none := He.free_ok X G (c.d.fact 33 (f := .free "zip") rfl)
  obtain ⟨fd_is_from, F_is_from, O_is_from⟩ := ok_is_from (P := P) (w := w) (base := base) X G c
  have gg_is_from : mg "is_from" = some (.ref (He.fAd K ("is_from", none))) := He.glo_ok X G (c.d.fact 18 (f := .glo "is_from") rfl)
  have B_is_from : Binds K fd_is_from N_is_from_ps [] := F_is_from.bindsN fun _ _ _ _ _ _ us hl => match us, hl with | [_, _, _], _ => rfl
  exact ⟨fd, F, fn_ok F sc_is_term (b := b_is_term) <| fun cdv A outer s H E hr => by
    have hu := L2.hu_of hr
    exact (ds_cons (ds_if (PW.pt (dw_or (dt_not (dt_val (de_isi1 (t := .tup) (sl (de_var (pv 0))) (pe_bltn rfl g_tuple b_tuple rfl) rfl g_isinstance b_isinstance))) (dw_or (dt_cmp (op_neD hr.units) s_ne (sl (de_callB o_len s_len rfl g_len b_len (la_cons (sl (de_var (pv 0))) la_nil))) (sl de_int) (nomark _)) (dw_or1 (dt_not (dt_val (d_call O_is_int (hr.mono (by decide)) rfl gg_is_int F_is_int.kp B_is_int passB (da_cons (de_ix (o_ix hu) s_ix (sl (de_var (pv 0))) (sl de_int) (fun _ _ => rfl)) da_nil) (lenA_cons lenA_nil))))))))
  (ds_one (ds_ret de_bl))
  ds_nil)
  (ds_cons (ds_if (PW.pt (dw_or (dt_not (dt_val (de_isi1 (t := .tup) (sl (de_ix (o_ix hu) s_ix (sl (de_var (pv 0))) (sl de_int) (fun _ _ => rfl))) (pe_bltn rfl g_tuple b_tuple rfl) rfl g_isinstance b_isinstance))) (dw_or1 (dt_cmp (op_neD hr.units) s_ne (sl (de_callB o_len s_len rfl g_len b_len (la_cons (sl (de_ix (o_ix hu) s_ix (sl (de_var (pv 0))) (sl de_int) (fun _ _ => rfl))) la_nil))) (sl (de_callB o_len s_len rfl g_len b_len (la_cons (sl (de_var (pv 1))) la_nil))) (nomark _)))))
  (ds_one (ds_ret de_bl))
  ds_nil)
  (ds_cons (ds_if (dt_not (dt_val (de_callB (cr_all rfl) s_all rfl g_all b_all (la_cons (nl (dn_lc (own := [("pick", 3), ("size", 4)]) rfl sc_is_term.nd (di_zpL rfl g_zip (la_cons (sl (de_ix (o_ix hu) s_ix (sl (de_var (pv 0))) (sl de_int) (fun _ _ => rfl))) (la_cons (sl (de_var (pv 1))) la_nil))) (blkOk_by (own := [("pick", 3), ("size", 4)]) (by kernel_rfl)) (fun _ _ _ _ _ => (pg_tup rfl (pgs_cons (pg_name sc_is_term.nd rfl (Or.inl rfl)) (pgs_cons (pg_name sc_is_term.nd rfl (Or.inl rfl)) pgs_nil)))) (tg_tup (tgs_cons (tg_name 3) (tgs_cons (tg_name 4) tgs_nil)) (tfl_cons (tfl_cons tfl_nil))) (fun _ _ _ _ _ => pts_nil) (fun _ _ _ z => yes_t z) (fun _ _ _ _ _ => (d_call O_is_from (hr.mono (by decide)) rfl gg_is_from F_is_from.kp B_is_from passL (da_cons (de_var (pv 3)) (da_cons (de_un un_neg s_neg (sl de_int)) (da_cons (de_op op_sub s_sub (sl (de_var (pv 4))) (sl de_int)) da_nil))) (lenA_cons (lenA_cons (lenA_cons lenA_nil))))))) la_nil))))
  (ds_one (ds_ret de_bl))
  ds_nil)
  (ds_one (ds_ret (d_call O_is_from (hr.mono (by decide)) rfl gg_is_from F_is_from.kp B_is_from passB (da_cons (de_ix (o_ix hu) s_ix (sl (de_var (pv 0))) (sl de_int) (fun _ _ => rfl)) (da_cons (de_un un_neg s_neg (sl de_int)) (da_cons (de_op op_sub s_sub (sl (de_var (pv 2))) (sl de_int)) da_nil))) (lenA_cons (lenA_cons (lenA_cons lenA_nil)))))))))⟩
theorem ok_are_sums {P : Program} {w : World} {K : PySem.W.Frag} {mg : Str → Option Value} {base h : Heap} (X : K.In h) (G : h.Ns mainGlobals mg) (c : SaysX fx fa fn K) :
    ∃ fd, FunD K "are_sums" "are_sums" (defArgs s_are_sums) (defBody s_are_sums) (defScope s_are_sums) [.int 12] [] (He.fAd K ("are_sums", none)) fd ∧ FnOk P w K mg base (L2.CX P w) 4 (He.fAd K ("are_sums", none)) fd N_are_sums_ps (spM K (cl K) 5 m_are_sums) := by
  obtain ⟨fd, F⟩ := c.d.def_ 15 (d := d_are_sums) rfl
  have g_len : mg "len" = none := He.free_ok X G (c.d.fact 3 (f := .free "len") rfl)
  have g_isinstance : mg "isinstance" = none := He.free_ok X G (c.d.fact 15 (f := .free "isinstance") rfl)
  have g_tuple : mg "tuple" = none := He.free_ok X G (c.d.fact 6 (f := .free "tuple") rfl)
  have g_all : mg "all" = none := He.free_ok X G (c.d.fact 22 (f := .free "all") rfl)
  obtain ⟨fd_is_term, F_is_term, O_is_term⟩ := ok_is_term (P := P) (w := w) (base := base) X G c
  have gg_is_term : mg "is_term" = some (.ref (He.fAd K ("is_term", none))) := He.glo_ok X G (c.d.fact 34 (f := .glo "is_term") rfl)
  have B_is_term : Binds K fd_is_term N_is_term_ps [] := F_is_term.bindsN fun _ _ _ _ _ _ us hl => match us, hl with | [_, _, _], _ => rfl
  exact ⟨fd, F, fn_ok F sc_are_sums (b := b_are_sums) <| fun cdv A outer s H E hr => by
    have hu := L2.hu_of hr
    exact (ds_cons (ds_if (PW.pt (dw_or (dt_not (dt_val (de_isi1 (t := .tup) (sl (de_var (pv 0))) (pe_bltn rfl g_tuple b_tuple rfl) rfl g_isinstance b_isinstance))) (dw_or1 (dt_cmp (op_neD hr.units) s_ne (sl (de_callB o_len s_len rfl g_len b_len (la_cons (sl (de_var (pv 0))) la_nil))) (sl (de_var (pv 1))) (nomark _)))))
  (ds_one (ds_ret de_bl))
  ds_nil)
  (ds_cons (ds_for passO rfl (di_seq (de_var (pv 0))) (pg_name sc_are_sums.nd rfl (Or.inl rfl)) (tg_name 5)
  (ds_cons (ds_if (PW.pt (dw_or (dt_not (dt_val (de_isi1 (t := .tup) (sl (de_var (pv 5))) (pe_bltn rfl g_tuple b_tuple rfl) rfl g_isinstance b_isinstance))) (dw_or1 (dt_cmp op_gt (s_cmp _) (sl (de_callB o_len s_len rfl g_len b_len (la_cons (sl (de_var (pv 5))) la_nil))) (sl (de_var (pv 4))) (nomark _)))))
  (ds_one (ds_ret de_bl))
  ds_nil)
  (ds_one (ds_if (dt_not (dt_val (de_callB (cr_all rfl) s_all rfl g_all b_all (la_cons (nl (dn_lc (own := [("term", 6)]) rfl sc_are_sums.nd (di_seqL (sl (de_var (pv 5)))) (blkOk_by (own := [("term", 6)]) (by kernel_rfl)) (fun _ _ _ _ _ => (pg_name sc_are_sums.nd rfl (Or.inl rfl))) (tg_name 6) (fun _ _ _ _ _ => pts_nil) (fun _ _ _ z => yes_t z) (fun _ _ _ _ _ => (d_call O_is_term (hr.mono (by decide)) rfl gg_is_term F_is_term.kp B_is_term passL (da_cons (de_var (pv 6)) (da_cons (de_var (pv 2)) (da_cons (de_var (pv 3)) da_nil))) (lenA_cons (lenA_cons (lenA_cons lenA_nil))))))) la_nil))))
  (ds_one (ds_ret de_bl))
  ds_nil))))
  (ds_one (ds_ret de_bl))))⟩
theorem ok_is_rule {P : Program} {w : World} {K : PySem.W.Frag} {mg : Str → Option Value} {base h : Heap} (X : K.In h) (G : h.Ns mainGlobals mg) (c : SaysX fx fa fn K) :
    ∃ fd, FunD K "is_rule" "is_rule" (defArgs s_is_rule) (defBody s_is_rule) (defScope s_is_rule) [] [] (He.fAd K ("is_rule", none)) fd ∧ FnOk P w K mg base (L2.CX P w) 5 (He.fAd K ("is_rule", none)) fd N_is_rule_ps (spM K (cl K) 3 m_is_rule) := by
  obtain ⟨fd, F⟩ := c.d.def_ 16 (d := d_is_rule) rfl
  obtain ⟨fd_is_name, F_is_name, O_is_name⟩ := ok_is_name (P := P) (w := w) (base := base) X G c
  have gg_is_name : mg "is_name" = some (.ref (He.fAd K ("is_name", none))) := He.glo_ok X G (c.d.fact 26 (f := .glo "is_name") rfl)
  have B_is_name : Binds K fd_is_name N_is_name_ps [] := F_is_name.bindsN fun _ _ _ _ _ _ us hl => match us, hl with | [_], _ => rfl
  have g_len : mg "len" = none := He.free_ok X G (c.d.fact 3 (f := .free "len") rfl)
  have g_isinstance : mg "isinstance" = none := He.free_ok X G (c.d.fact 15 (f := .free "isinstance") rfl)
  have g_tuple : mg "tuple" = none := He.free_ok X G (c.d.fact 6 (f := .free "tuple") rfl)
  have g_str : mg "str" = none := He.free_ok X G (c.d.fact 25 (f := .free "str") rfl)
  obtain ⟨_, g_MAX_CHILDREN⟩ := He.int_ok X G (c.d.fact 31 (f := .int "MAX_CHILDREN" (2)) rfl)
  obtain ⟨fd_is_from, F_is_from, O_is_from⟩ := ok_is_from (P := P) (w := w) (base := base) X G c
  have gg_is_from : mg "is_from" = some (.ref (He.fAd K ("is_from", none))) := He.glo_ok X G (c.d.fact 18 (f := .glo "is_from") rfl)
  have B_is_from : Binds K fd_is_from N_is_from_ps [] := F_is_from.bindsN fun _ _ _ _ _ _ us hl => match us, hl with | [_, _, _], _ => rfl
  obtain ⟨_, g_MAX_NUMBERS⟩ := He.int_ok X G (c.d.fact 32 (f := .int "MAX_NUMBERS" (2)) rfl)
  have g_all : mg "all" = none := He.free_ok X G (c.d.fact 22 (f := .free "all") rfl)
  obtain ⟨fd_are_sums, F_are_sums, O_are_sums⟩ := ok_are_sums (P := P) (w := w) (base := base) X G c
  have gg_are_sums : mg "are_sums" = some (.ref (He.fAd K ("are_sums", none))) := He.glo_ok X G (c.d.fact 35 (f := .glo "are_sums") rfl)
  obtain ⟨ds4_are_sums, V4_are_sums, BD4_are_sums⟩ := F_are_sums.binds1 (ps := N_are_sums_ps) 4 0 (by intro z; cases z) rfl fun _ _ _ _ _ _ _ us its h1 h2 => match us, its, h1, h2 with | [_, _, _, _], [_], _, _ => ⟨_, rfl, rfl⟩
  exact ⟨fd, F, fn_ok F sc_is_rule (b := b_is_rule) <| fun cdv A outer s H E hr => by
    have hu := L2.hu_of hr
    exact (ds_cons (ds_if (PW.pt (dw_or (dt_not (dt_val (de_isi1 (t := .tup) (sl (de_var (pv 0))) (pe_bltn rfl g_tuple b_tuple rfl) rfl g_isinstance b_isinstance))) (dw_or (dt_cmp (op_neD hr.units) s_ne (sl (de_callB o_len s_len rfl g_len b_len (la_cons (sl (de_var (pv 0))) la_nil))) (sl de_int) (nomark _)) (dw_or (dt_not (dt_val (d_call O_is_name (hr.mono (by decide)) rfl gg_is_name F_is_name.kp B_is_name passB (da_cons (de_ix (o_ix hu) s_ix (sl (de_var (pv 0))) (sl de_int) (fun _ _ => rfl)) da_nil) (lenA_cons lenA_nil)))) (dw_or1 (dt_cmp (o_in hu) s_in (sl (de_ix (o_ix hu) s_ix (sl (de_var (pv 0))) (sl de_int) (fun _ _ => rfl))) (sl (de_var (pv 1))) rfl))))))
  (ds_one (ds_ret de_bl))
  ds_nil)
  (ds_cons (ds_if (PW.pt (dw_or (dt_not (dt_val (de_isi1 (t := .str) (sl (de_ix (o_ix hu) s_ix (sl (de_var (pv 0))) (sl de_int) (fun _ _ => rfl))) (pe_bltn rfl g_str b_str rfl) rfl g_isinstance b_isinstance))) (dw_or1 (dt_cmp (o_notIn hu) s_notIn (sl (de_ix (o_ix hu) s_ix (sl (de_var (pv 0))) (sl de_int) (fun _ _ => rfl))) (sl (de_var (pv 2))) rfl))))
  (ds_one (ds_ret de_bl))
  ds_nil)
  (ds_cons (ds_if (PW.pt (dw_or (dt_not (dt_val (de_isi1 (t := .tup) (sl (de_ix (o_ix hu) s_ix (sl (de_var (pv 0))) (sl de_int) (fun _ _ => rfl))) (pe_bltn rfl g_tuple b_tuple rfl) rfl g_isinstance b_isinstance))) (dw_or1 (dt_cmp op_gt (s_cmp _) (sl (de_callB o_len s_len rfl g_len b_len (la_cons (sl (de_ix (o_ix hu) s_ix (sl (de_var (pv 0))) (sl de_int) (fun _ _ => rfl))) la_nil))) (sl (de_c (v := .int 2) (pe_glob rfl g_MAX_CHILDREN ⟨_, rfl⟩) fun _ _ _ => .int _)) (nomark _)))))
  (ds_one (ds_ret de_bl))
  ds_nil)
  (ds_cons (ds_if (PW.pt (dw_or (dt_not (dt_val (de_callB (cr_all rfl) s_all rfl g_all b_all (la_cons (nl (dn_lc (own := [("one", 3)]) rfl sc_is_rule.nd (di_seqL (sl (de_ix (o_ix hu) s_ix (sl (de_var (pv 0))) (sl de_int) (fun _ _ => rfl)))) (blkOk_by (own := [("one", 3)]) (by kernel_rfl)) (fun _ _ _ _ _ => (pg_name sc_is_rule.nd rfl (Or.inl rfl))) (tg_name 3) (fun _ _ _ _ _ => pts_nil) (fun _ _ _ z => yes_t z) (fun _ _ _ _ _ => (de_and (de_isi1 (t := .str) (sl (de_var (pv 3))) (pe_bltn rfl g_str b_str rfl) rfl g_isinstance b_isinstance) (de_one (de_cmp (o_in hu) s_in (sl (de_var (pv 3))) (sl (de_var (pv 2))) rfl)))))) la_nil)))) (dw_or1 (dt_not (dt_val (d_call O_is_from (hr.mono (by decide)) rfl gg_is_from F_is_from.kp B_is_from passB (da_cons (de_ix (o_ix hu) s_ix (sl (de_var (pv 0))) (sl de_int) (fun _ _ => rfl)) (da_cons de_int (da_cons (de_c (v := .int 2) (pe_glob rfl g_MAX_NUMBERS ⟨_, rfl⟩) fun _ _ _ => .int _) da_nil))) (lenA_cons (lenA_cons (lenA_cons lenA_nil)))))))))
  (ds_one (ds_ret de_bl))
  ds_nil)
  (ds_one (ds_ret (d_callD (dl := [.int 12]) O_are_sums (hr.mono (by decide)) rfl gg_are_sums F_are_sums.kp BD4_are_sums V4_are_sums passB (da_cons (de_ix (o_ix hu) s_ix (sl (de_var (pv 0))) (sl de_int) (fun _ _ => rfl)) (da_cons (de_ix (o_ix hu) s_ix (sl (de_var (pv 2))) (sl (de_ix (o_ix hu) s_ix (sl (de_var (pv 0))) (sl de_int) (fun _ _ => rfl))) (fun _ _ => rfl)) (da_cons (ns (dn_lc (own := [("one", 3)]) rfl sc_is_rule.nd (di_seqL (sl (de_ix (o_ix hu) s_ix (sl (de_var (pv 0))) (sl de_int) (fun _ _ => rfl)))) (blkOk_by (own := [("one", 3)]) (by kernel_rfl)) (fun _ _ _ _ _ => (pg_name sc_is_rule.nd rfl (Or.inl rfl))) (tg_name 3) (fun _ _ _ _ _ => pts_nil) (fun _ _ _ z => yes_t z) (fun _ _ _ _ _ => (de_ix (o_ix hu) s_ix (sl (de_var (pv 2))) (sl (de_var (pv 3))) (fun _ _ => rfl))))) (da_cons (de_ix (o_ix hu) s_ix (sl (de_var (pv 0))) (sl de_int) (fun _ _ => rfl)) da_nil)))) (lenA_cons (lenA_cons (lenA_cons (lenA_cons lenA_nil)))) rfl (fun _ _ _ => (.cons (.int _) .nil)))))))))⟩
theorem ok_is_form {P : Program} {w : World} {K : PySem.W.Frag} {mg : Str → Option Value} {base h : Heap} (X : K.In h) (G : h.Ns mainGlobals mg) (c : SaysX fx fa fn K) :
    ∃ fd, FunD K "is_form" "is_form" (defArgs s_is_form) (defBody s_is_form) (defScope s_is_form) [] [] (He.fAd K ("is_form", none)) fd ∧ FnOk P w K mg base (L2.CX P w) 2 (He.fAd K ("is_form", none)) fd N_is_form_ps (spM K (cl K) 2 m_is_form) := by
  obtain ⟨fd, F⟩ := c.d.def_ 17 (d := d_is_form) rfl
  have g_all : mg "all" = none := He.free_ok X G (c.d.fact 22 (f := .free "all") rfl)
  obtain ⟨fd_is_int, F_is_int, O_is_int⟩ := ok_is_int (P := P) (w := w) (base := base) X G c
  have gg_is_int : mg "is_int" = some (.ref (He.fAd K ("is_int", none))) := He.glo_ok X G (c.d.fact 17 (f := .glo "is_int") rfl)
  have B_is_int : Binds K fd_is_int N_is_int_ps [] := F_is_int.bindsN fun _ _ _ _ _ _ us hl => match us, hl with | [_], _ => rfl
  have g_len : mg "len" = none := He.free_ok X G (c.d.fact 3 (f := .free "len") rfl)
  have g_isinstance : mg "isinstance" = none := He.free_ok X G (c.d.fact 15 (f := .free "isinstance") rfl)
  have g_tuple : mg "tuple" = none := He.free_ok X G (c.d.fact 6 (f := .free "tuple") rfl)
  exact ⟨fd, F, fn_ok F sc_is_form (b := b_is_form) <| fun cdv A outer s H E hr => by
    have hu := L2.hu_of hr
    exact (ds_one (ds_ret (de_and (de_isi1 (t := .tup) (sl (de_var (pv 0))) (pe_bltn rfl g_tuple b_tuple rfl) rfl g_isinstance b_isinstance) (de_and (de_cmp (op_eqD hr.units) s_eq (sl (de_callB o_len s_len rfl g_len b_len (la_cons (sl (de_var (pv 0))) la_nil))) (sl (de_op o_add s_add (sl (de_var (pv 1))) (sl de_int))) (nomark _)) (de_one (de_callB (cr_all rfl) s_all rfl g_all b_all (la_cons (nl (dn_lc (own := [("one", 2)]) rfl sc_is_form.nd (di_seqL (sl (de_var (pv 0)))) (blkOk_by (own := [("one", 2)]) (by kernel_rfl)) (fun _ _ _ _ _ => (pg_name sc_is_form.nd rfl (Or.inl rfl))) (tg_name 2) (fun _ _ _ _ _ => pts_nil) (fun _ _ _ z => yes_t z) (fun _ _ _ _ _ => (d_call O_is_int (hr.mono (by decide)) rfl gg_is_int F_is_int.kp B_is_int passL (da_cons (de_var (pv 2)) da_nil) (lenA_cons lenA_nil))))) la_nil)))))))⟩
theorem ok_check_grammar {P : Program} {w : World} {K : PySem.W.Frag} {mg : Str → Option Value} {base h : Heap} (X : K.In h) (G : h.Ns mainGlobals mg) (c : SaysX fx fa fn K) :
    ∃ fd, FunD K "check_grammar" "check_grammar" (defArgs s_check_grammar) (defBody s_check_grammar) (defScope s_check_grammar) [] [] (He.fAd K ("check_grammar", none)) fd ∧ FnOk P w K mg base (L2.CX P w) 6 (He.fAd K ("check_grammar", none)) fd N_check_grammar_ps (spM K (cl K) 5 m_check_grammar) := by
  obtain ⟨fd, F⟩ := c.d.def_ 18 (d := d_check_grammar) rfl
  obtain ⟨fd_is_from, F_is_from, O_is_from⟩ := ok_is_from (P := P) (w := w) (base := base) X G c
  have gg_is_from : mg "is_from" = some (.ref (He.fAd K ("is_from", none))) := He.glo_ok X G (c.d.fact 18 (f := .glo "is_from") rfl)
  have B_is_from : Binds K fd_is_from N_is_from_ps [] := F_is_from.bindsN fun _ _ _ _ _ _ us hl => match us, hl with | [_, _, _], _ => rfl
  obtain ⟨_, g_MAX_WIDTH⟩ := He.int_ok X G (c.d.fact 19 (f := .int "MAX_WIDTH" (64)) rfl)
  obtain ⟨fd_check_kinds, F_check_kinds, O_check_kinds⟩ := ok_check_kinds (P := P) (w := w) (base := base) X G c
  have gg_check_kinds : mg "check_kinds" = some (.ref (He.fAd K ("check_kinds", none))) := He.glo_ok X G (c.d.fact 29 (f := .glo "check_kinds") rfl)
  have B_check_kinds : Binds K fd_check_kinds N_check_kinds_ps [] := F_check_kinds.bindsN fun _ _ _ _ _ _ us hl => match us, hl with | [_], _ => rfl
  have g_dict : mg "dict" = none := He.free_ok X G (c.d.fact 8 (f := .free "dict") rfl)
  have g_len : mg "len" = none := He.free_ok X G (c.d.fact 3 (f := .free "len") rfl)
  obtain ⟨_, g_MAX_RULES⟩ := He.int_ok X G (c.d.fact 30 (f := .int "MAX_RULES" (12)) rfl)
  have g_isinstance : mg "isinstance" = none := He.free_ok X G (c.d.fact 15 (f := .free "isinstance") rfl)
  have g_list : mg "list" = none := He.free_ok X G (c.d.fact 21 (f := .free "list") rfl)
  have g_tuple : mg "tuple" = none := He.free_ok X G (c.d.fact 6 (f := .free "tuple") rfl)
  have g_enumerate : mg "enumerate" = none := He.free_ok X G (c.d.fact 0 (f := .free "enumerate") rfl)
  obtain ⟨fd_is_rule, F_is_rule, O_is_rule⟩ := ok_is_rule (P := P) (w := w) (base := base) X G c
  have gg_is_rule : mg "is_rule" = some (.ref (He.fAd K ("is_rule", none))) := He.glo_ok X G (c.d.fact 36 (f := .glo "is_rule") rfl)
  have B_is_rule : Binds K fd_is_rule N_is_rule_ps [] := F_is_rule.bindsN fun _ _ _ _ _ _ us hl => match us, hl with | [_, _, _], _ => rfl
  have g_str : mg "str" = none := He.free_ok X G (c.d.fact 25 (f := .free "str") rfl)
  obtain ⟨_, g_MAX_ANSWERS⟩ := He.int_ok X G (c.d.fact 37 (f := .int "MAX_ANSWERS" (4)) rfl)
  obtain ⟨fd_is_form, F_is_form, O_is_form⟩ := ok_is_form (P := P) (w := w) (base := base) X G c
  have gg_is_form : mg "is_form" = some (.ref (He.fAd K ("is_form", none))) := He.glo_ok X G (c.d.fact 38 (f := .glo "is_form") rfl)
  have B_is_form : Binds K fd_is_form N_is_form_ps [] := F_is_form.bindsN fun _ _ _ _ _ _ us hl => match us, hl with | [_, _], _ => rfl
  exact ⟨fd, F, fn_ok F sc_check_grammar (b := b_check_grammar) <| fun cdv A outer s H E hr => by
    have hu := L2.hu_of hr
    exact (ds_cons (ds_if (dt_not (dt_val (d_call O_is_from (hr.mono (by decide)) rfl gg_is_from F_is_from.kp B_is_from passB (da_cons (de_var (pv 0)) (da_cons de_int (da_cons (de_c (v := .int 64) (pe_glob rfl g_MAX_WIDTH ⟨_, rfl⟩) fun _ _ _ => .int _) da_nil))) (lenA_cons (lenA_cons (lenA_cons lenA_nil))))))
  (ds_one ds_never)
  ds_nil)
  (ds_cons (ds_expr (ps_expr (d_call O_check_kinds (hr.mono (by decide)) rfl gg_check_kinds F_check_kinds.kp B_check_kinds passB (da_cons (de_var (pv 1)) da_nil) (lenA_cons lenA_nil))) (fun _ _ _ z => z))
  (ds_cons (ds_parVO (ps_par rfl sc_check_grammar.nd rfl rfl (by decide) rfl rfl (pa_cons (ns (dn_callTy (call_dictP rfl) s_dict rfl g_dict b_dict (la_cons (nl (dn_lc (own := [("name", 10), ("names", 11)]) rfl sc_check_grammar.nd (di_seqL (sl (de_var (pv 1)))) (blkOk_by (own := [("name", 10), ("names", 11)]) (by kernel_rfl)) (fun _ _ _ _ _ => (pg_tup rfl (pgs_cons (pg_name sc_check_grammar.nd rfl (Or.inl rfl)) (pgs_cons (pg_name sc_check_grammar.nd rfl (Or.inl rfl)) pgs_nil)))) (tg_tup (tgs_cons (tg_name 10) (tgs_cons (tg_name 11) tgs_nil)) (tfl_cons (tfl_cons tfl_nil))) (fun _ _ _ _ _ => pts_nil) (fun _ _ _ z => yes_t z) (fun _ _ _ _ _ => (de_tup (da_cons (de_var (pv 10)) (da_cons (de_callB o_len s_len rfl g_len b_len (la_cons (sl (de_var (pv 11))) la_nil)) da_nil)) (lenA_cons (lenA_cons lenA_nil)))))) la_nil))) (pa_cons (dn_lst da_nil lenA_nil) pa_nil)) rfl) (fun _ _ _ z => z) (fun _ _ _ z => z))
  (ds_cons (ds_if (PW.pt (dw_or (dt_not (dt_val (de_isi2 (t := .lst) (t2 := .tup) (sl (de_var (pv 2))) (pe_bltn rfl g_list b_list rfl) (pe_bltn rfl g_tuple b_tuple rfl) rfl g_isinstance b_isinstance))) (dw_or1 (dt_not (dt_ch op_le op_le (s_cmp _) (s_cmp _) (sl de_int) (sl (de_callB o_len s_len rfl g_len b_len (la_cons (sl (de_var (pv 2))) la_nil))) (sl (de_c (v := .int 12) (pe_glob rfl g_MAX_RULES ⟨_, rfl⟩) fun _ _ _ => .int _)))))))
  (ds_one ds_never)
  ds_nil)
  (ds_cons (ds_for passO rfl (di_en rfl g_enumerate (da_cons (de_var (pv 2)) da_nil)) (pg_tup rfl (pgs_cons (pg_name sc_check_grammar.nd rfl (Or.inl rfl)) (pgs_cons (pg_name sc_check_grammar.nd rfl (Or.inl rfl)) pgs_nil))) (tg_tup (tgs_cons (tg_name 7) (tgs_cons (tg_name 8) tgs_nil)) (tfl_cons (tfl_cons tfl_nil)))
  (ds_cons (ds_if (dt_not (dt_val (d_callL O_is_rule (hr.mono (by decide)) rfl gg_is_rule F_is_rule.kp B_is_rule passB (la_cons (sl (de_var (pv 8))) (la_cons (de_varL (pv 6)) (la_cons (sl (de_var (pv 5))) la_nil))) (lenA_cons (lenA_cons (lenA_cons lenA_nil))))))
  (ds_one ds_never)
  ds_nil)
  (ds_one (ds_appO (ps_expr (pe_bm PySem.F.plainAttrs_list PySem.F.slot_list_append PySem.F.type_list_append mt_append (pv 6) (pa_cons (de_ix (o_ix hu) s_ix (sl (de_var (pv 8))) (sl de_int) (fun _ _ => rfl)) pa_nil))) (fun _ _ _ z => z)))))
  (ds_cons (ds_if (PW.pt (dw_or (dt_not (dt_val (de_isi1 (t := .str) (sl (de_var (pv 3))) (pe_bltn rfl g_str b_str rfl) rfl g_isinstance b_isinstance))) (dw_or1 (dt_cmp (o_notIn hu) s_notIn (sl (de_var (pv 3))) (sl (de_var (pv 5))) rfl))))
  (ds_one ds_never)
  ds_nil)
  (ds_cons (ds_if (PW.pt (dw_or (dt_not (dt_val (de_isi2 (t := .lst) (t2 := .tup) (sl (de_var (pv 4))) (pe_bltn rfl g_list b_list rfl) (pe_bltn rfl g_tuple b_tuple rfl) rfl g_isinstance b_isinstance))) (dw_or1 (dt_not (dt_ch op_le op_le (s_cmp _) (s_cmp _) (sl de_int) (sl (de_callB o_len s_len rfl g_len b_len (la_cons (sl (de_var (pv 4))) la_nil))) (sl (de_c (v := .int 4) (pe_glob rfl g_MAX_ANSWERS ⟨_, rfl⟩) fun _ _ _ => .int _)))))))
  (ds_one ds_never)
  ds_nil)
  (ds_one (ds_for passO rfl (di_en rfl g_enumerate (da_cons (de_var (pv 4)) da_nil)) (pg_tup rfl (pgs_cons (pg_name sc_check_grammar.nd rfl (Or.inl rfl)) (pgs_cons (pg_name sc_check_grammar.nd rfl (Or.inl rfl)) pgs_nil))) (tg_tup (tgs_cons (tg_name 7) (tgs_cons (tg_name 9) tgs_nil)) (tfl_cons (tfl_cons tfl_nil)))
  (ds_one (ds_if (dt_not (dt_val (d_call O_is_form (hr.mono (by decide)) rfl gg_is_form F_is_form.kp B_is_form passB (da_cons (de_var (pv 9)) (da_cons (de_ix (o_ix hu) s_ix (sl (de_var (pv 5))) (sl (de_var (pv 3))) (fun _ _ => rfl)) da_nil)) (lenA_cons (lenA_cons lenA_nil)))))
  (ds_one ds_never)
  ds_nil)))))))))))⟩
theorem ok_reduced_sums {P : Program} {w : World} {K : PySem.W.Frag} {mg : Str → Option Value} {base h : Heap} (X : K.In h) (G : h.Ns mainGlobals mg) (c : SaysX fx fa fn K) :
    ∃ fd, FunD K "reduced_sums" "reduced_sums" (defArgs s_reduced_sums) (defBody s_reduced_sums) (defScope s_reduced_sums) [] [] (He.fAd K ("reduced_sums", none)) fd ∧ FnOk P w K mg base (L2.CX P w) 1 (He.fAd K ("reduced_sums", none)) fd N_reduced_sums_ps (spM K (cl K) 2 m_reduced_sums) := by
  obtain ⟨fd, F⟩ := c.d.def_ 19 (d := d_reduced_sums) rfl
  have g_tuple : mg "tuple" = none := He.free_ok X G (c.d.fact 6 (f := .free "tuple") rfl)
  exact ⟨fd, F, fn_ok F sc_reduced_sums (b := b_reduced_sums) <| fun cdv A outer s H E hr => by
    have hu := L2.hu_of hr
    exact (ds_cons (ds_own (ps_set sc_reduced_sums.nd rfl (Or.inl rfl) (dn_lst da_nil lenA_nil)) (fun _ _ _ z => z))
  (ds_cons (ds_for passO rfl (di_seq (de_var (pv 0))) (pg_name sc_reduced_sums.nd rfl (Or.inl rfl)) (tg_name 3)
  (ds_one (ds_appO (ps_expr (pe_bm PySem.F.plainAttrs_list PySem.F.slot_list_append PySem.F.type_list_append mt_append (pv 2) (pa_cons (de_callTy call_tuple_of s_tup rfl g_tuple b_tuple (la_cons (nl (dn_lc (own := [("factor", 4), ("picks", 5), ("number", 6)]) rfl sc_reduced_sums.nd (di_seqL (sl (de_var (pv 3)))) (blkOk_by (own := [("factor", 4), ("picks", 5), ("number", 6)]) (by kernel_rfl)) (fun _ _ _ _ _ => (pg_tup rfl (pgs_cons (pg_name sc_reduced_sums.nd rfl (Or.inl rfl)) (pgs_cons (pg_name sc_reduced_sums.nd rfl (Or.inl rfl)) (pgs_cons (pg_name sc_reduced_sums.nd rfl (Or.inl rfl)) pgs_nil))))) (tg_tup (tgs_cons (tg_name 4) (tgs_cons (tg_name 5) (tgs_cons (tg_name 6) tgs_nil))) (tfl_cons (tfl_cons (tfl_cons tfl_nil)))) (fun _ _ _ _ _ => pts_nil) (fun _ _ _ z => yes_t z) (fun _ _ _ _ _ => (de_tup (da_cons (de_op op_mod s_mod (sl (de_var (pv 4))) (sl (de_var (pv 1)))) (da_cons (de_var (pv 5)) (da_cons (de_var (pv 6)) da_nil))) (lenA_cons (lenA_cons (lenA_cons lenA_nil))))))) la_nil)) pa_nil))) (fun _ _ _ z => z))))
  (ds_one (ds_ret (de_callTy call_tuple_of s_tup rfl g_tuple b_tuple (la_cons (de_varL (pv 2)) la_nil))))))⟩
theorem ok_reduced {P : Program} {w : World} {K : PySem.W.Frag} {mg : Str → Option Value} {base h : Heap} (X : K.In h) (G : h.Ns mainGlobals mg) (c : SaysX fx fa fn K) :
    ∃ fd, FunD K "reduced" "reduced" (defArgs s_reduced) (defBody s_reduced) (defScope s_reduced) [] [] (He.fAd K ("reduced", none)) fd ∧ FnOk P w K mg base (L2.CX P w) 1 (He.fAd K ("reduced", none)) fd N_reduced_ps (spM K (cl K) 2 m_reduced) := by
  obtain ⟨fd, F⟩ := c.d.def_ 20 (d := d_reduced) rfl
  have g_tuple : mg "tuple" = none := He.free_ok X G (c.d.fact 6 (f := .free "tuple") rfl)
  exact ⟨fd, F, fn_ok F sc_reduced (b := b_reduced) <| fun cdv A outer s H E hr => by
    have hu := L2.hu_of hr
    exact (ds_one (ds_ret (de_callTy call_tuple_of s_tup rfl g_tuple b_tuple (la_cons (nl (dn_lc (own := [("number", 2)]) rfl sc_reduced.nd (di_seqL (sl (de_var (pv 0)))) (blkOk_by (own := [("number", 2)]) (by kernel_rfl)) (fun _ _ _ _ _ => (pg_name sc_reduced.nd rfl (Or.inl rfl))) (tg_name 2) (fun _ _ _ _ _ => pts_nil) (fun _ _ _ z => yes_t z) (fun _ _ _ _ _ => (de_op op_mod s_mod (sl (de_var (pv 2))) (sl (de_var (pv 1))))))) la_nil))))⟩
theorem blind_Grammar___init__ : Blind m_Grammar___init__ := by
  unfold m_Grammar___init__
  refine blind_of ?_
  unfold b_Grammar___init__
  repeat' (first | exact be_var _ | exact be_varL _ | exact be_c _ | exact be_nil | exact be_dNew | apply be_newR | exact be_yes | exact be_oN | exact bs_nil | exact bs_bad | exact bf_n _ | exact bfs_nil | apply bs_seq | apply bs_expr | apply bs_set | apply bs_own | apply bs_if | apply bs_sf | apply be_cons | apply be_bin | apply be_un | apply be_tv | apply be_andT | apply be_orT | apply be_notT | apply be_andV | apply be_orV | apply be_notV | apply be_if | apply be_ch | apply be_tup | apply be_lst | apply be_cB | apply be_call | apply be_callD | apply be_make | apply be_sl | apply be_slN | apply be_isi | apply be_iso | apply be_fld | apply be_meth | apply be_seqI | apply be_strI | apply be_rngI | apply be_enI | apply be_zpI | apply be_comp | apply bf_t | apply bfs_cons | apply be_oS)
theorem ok_Grammar___init__ {P : Program} {w : World} {K : PySem.W.Frag} {mg : Str → Option Value} {base h : Heap} (X : K.In h) (G : h.Ns mainGlobals mg) (c : SaysX fx fa fn K) :
    ∃ fd, FunD K "__init__" "Grammar.__init__" (defArgs s_Grammar___init__) (defBody s_Grammar___init__) (defScope s_Grammar___init__) [] [] (He.fAd K ("Grammar", some "__init__")) fd ∧ FnOk P w K mg base (L2.CX P w) 7 (He.fAd K ("Grammar", some "__init__")) fd N_Grammar___init___ps (spI K (cl K) 0 5 m_Grammar___init__) := by
  obtain ⟨fd, F⟩ := c.d.def_ 21 (d := d_Grammar___init__) rfl
  obtain ⟨fd_check_grammar, F_check_grammar, O_check_grammar⟩ := ok_check_grammar (P := P) (w := w) (base := base) X G c
  have gg_check_grammar : mg "check_grammar" = some (.ref (He.fAd K ("check_grammar", none))) := He.glo_ok X G (c.d.fact 39 (f := .glo "check_grammar") rfl)
  have B_check_grammar : Binds K fd_check_grammar N_check_grammar_ps [] := F_check_grammar.bindsN fun _ _ _ _ _ _ us hl => match us, hl with | [_, _, _, _, _], _ => rfl
  have cls_Grammar : Cls K (He.ga K "Grammar") := He.cls_ok (c.d.fact 40 (f := .cls "Grammar") rfl)
  have noat_Grammar_width : NoAttr K (He.ga K "Grammar") "width" := He.noat_ok (c.d.fact 41 (f := .noat "Grammar" "width") rfl)
  have g_tuple : mg "tuple" = none := He.free_ok X G (c.d.fact 6 (f := .free "tuple") rfl)
  have noat_Grammar_kinds : NoAttr K (He.ga K "Grammar") "kinds" := He.noat_ok (c.d.fact 42 (f := .noat "Grammar" "kinds") rfl)
  obtain ⟨fd_reduced_sums, F_reduced_sums, O_reduced_sums⟩ := ok_reduced_sums (P := P) (w := w) (base := base) X G c
  have gg_reduced_sums : mg "reduced_sums" = some (.ref (He.fAd K ("reduced_sums", none))) := He.glo_ok X G (c.d.fact 43 (f := .glo "reduced_sums") rfl)
  have B_reduced_sums : Binds K fd_reduced_sums N_reduced_sums_ps [] := F_reduced_sums.bindsN fun _ _ _ _ _ _ us hl => match us, hl with | [_, _], _ => rfl
  have noat_Grammar_rules : NoAttr K (He.ga K "Grammar") "rules" := He.noat_ok (c.d.fact 44 (f := .noat "Grammar" "rules") rfl)
  have noat_Grammar_top : NoAttr K (He.ga K "Grammar") "top" := He.noat_ok (c.d.fact 45 (f := .noat "Grammar" "top") rfl)
  obtain ⟨fd_reduced, F_reduced, O_reduced⟩ := ok_reduced (P := P) (w := w) (base := base) X G c
  have gg_reduced : mg "reduced" = some (.ref (He.fAd K ("reduced", none))) := He.glo_ok X G (c.d.fact 46 (f := .glo "reduced") rfl)
  have B_reduced : Binds K fd_reduced N_reduced_ps [] := F_reduced.bindsN fun _ _ _ _ _ _ us hl => match us, hl with | [_, _], _ => rfl
  have noat_Grammar_answers : NoAttr K (He.ga K "Grammar") "answers" := He.noat_ok (c.d.fact 47 (f := .noat "Grammar" "answers") rfl)
  exact ⟨fd, F, init_fn (c := 0) (n := 5) F sc_Grammar___init__ rfl (b := b_Grammar___init__) <| fun cdv A outer s H E hr => by
    have hu := L2.hu_of hr
    exact (ds_cons (ds_expr (ps_expr (d_call O_check_grammar (hr.mono (by decide)) rfl gg_check_grammar F_check_grammar.kp B_check_grammar passB (da_cons (de_var (pv 1)) (da_cons (de_var (pv 2)) (da_cons (de_var (pv 3)) (da_cons (de_var (pv 4)) (da_cons (de_var (pv 5)) da_nil))))) (lenA_cons (lenA_cons (lenA_cons (lenA_cons (lenA_cons lenA_nil))))))) (fun _ _ _ z => z))
  (ds_cons (ds_set (ps_set sc_Grammar___init__.nd rfl (Or.inr rfl) (de_op op_shl s_shl (sl de_int) (sl (de_var (pv 1))))) (fun _ _ _ z => z))
  (ds_cons (ds_sf (cl := cl K) (c := 0) (ps_fld (pv 0) (de_var (pv 1)) rfl) (fun _ _ _ z => z) cls_Grammar noat_Grammar_width)
  (ds_cons (ds_sf (cl := cl K) (c := 0) (ps_fld (pv 0) (de_callTy call_tuple_of s_tup rfl g_tuple b_tuple (la_cons (sl (de_var (pv 2))) la_nil)) rfl) (fun _ _ _ z => z) cls_Grammar noat_Grammar_kinds)
  (ds_cons (ds_sf (cl := cl K) (c := 0) (ps_fld (pv 0) (de_callTy call_tuple_of s_tup rfl g_tuple b_tuple (la_cons (nl (dn_lc (own := [("rule", 7)]) rfl sc_Grammar___init__.nd (di_seqL (sl (de_var (pv 3)))) (blkOk_by (own := [("rule", 7)]) (by kernel_rfl)) (fun _ _ _ _ _ => (pg_name sc_Grammar___init__.nd rfl (Or.inl rfl))) (tg_name 7) (fun _ _ _ _ _ => pts_nil) (fun _ _ _ z => yes_t z) (fun _ _ _ _ _ => (de_op o_add s_add (sl (de_sl (sl (de_var (pv 7))) do_none (do_some de_int))) (sl (de_tup (da_cons (d_call O_reduced_sums (hr.mono (by decide)) rfl gg_reduced_sums F_reduced_sums.kp B_reduced_sums passL (da_cons (de_ix (o_ix hu) s_ix (sl (de_var (pv 7))) (sl de_int) (fun _ _ => rfl)) (da_cons (de_var (pv 6)) da_nil)) (lenA_cons (lenA_cons lenA_nil))) da_nil) (lenA_cons lenA_nil))))))) la_nil)) rfl) (fun _ _ _ z => z) cls_Grammar noat_Grammar_rules)
  (ds_cons (ds_sf (cl := cl K) (c := 0) (ps_fld (pv 0) (de_var (pv 4)) rfl) (fun _ _ _ z => z) cls_Grammar noat_Grammar_top)
  (ds_one (ds_sf (cl := cl K) (c := 0) (ps_fld (pv 0) (de_callTy call_tuple_of s_tup rfl g_tuple b_tuple (la_cons (nl (dn_lc (own := [("form", 8)]) rfl sc_Grammar___init__.nd (di_seqL (sl (de_var (pv 5)))) (blkOk_by (own := [("form", 8)]) (by kernel_rfl)) (fun _ _ _ _ _ => (pg_name sc_Grammar___init__.nd rfl (Or.inl rfl))) (tg_name 8) (fun _ _ _ _ _ => pts_nil) (fun _ _ _ z => yes_t z) (fun _ _ _ _ _ => (d_call O_reduced (hr.mono (by decide)) rfl gg_reduced F_reduced.kp B_reduced passL (da_cons (de_var (pv 8)) (da_cons (de_var (pv 6)) da_nil)) (lenA_cons (lenA_cons lenA_nil)))))) la_nil)) rfl) (fun _ _ _ z => z) cls_Grammar noat_Grammar_answers))))))))⟩
theorem ok__law_grown {P : Program} {w : World} {K : PySem.W.Frag} {mg : Str → Option Value} {base h : Heap} (X : K.In h) (G : h.Ns mainGlobals mg) (c : SaysX fx fa fn K) :
    ∃ fd, FunD K "_law_grown" "_law_grown" (defArgs s__law_grown) (defBody s__law_grown) (defScope s__law_grown) [] [] (He.fAd K ("_law_grown", none)) fd ∧ FnOk P w K mg base (L2.CX P w) 3 (He.fAd K ("_law_grown", none)) fd N__law_grown_ps (spM K (cl K) 3 m__law_grown) := by
  obtain ⟨fd, F⟩ := c.d.def_ 22 (d := d__law_grown) rfl
  have g_range : mg "range" = none := He.free_ok X G (c.d.fact 5 (f := .free "range") rfl)
  obtain ⟨fd__law_one, F__law_one, O__law_one⟩ := ok__law_one (P := P) (w := w) (base := base) X G c
  have gg__law_one : mg "_law_one" = some (.ref (He.fAd K ("_law_one", none))) := He.glo_ok X G (c.d.fact 4 (f := .glo "_law_one") rfl)
  have B__law_one : Binds K fd__law_one N__law_one_ps [] := F__law_one.bindsN fun _ _ _ _ _ _ us hl => match us, hl with | [_, _], _ => rfl
  have g_len : mg "len" = none := He.free_ok X G (c.d.fact 3 (f := .free "len") rfl)
  obtain ⟨fd__law_draw, F__law_draw, O__law_draw⟩ := ok__law_draw (P := P) (w := w) (base := base) X G c
  have gg__law_draw : mg "_law_draw" = some (.ref (He.fAd K ("_law_draw", none))) := He.glo_ok X G (c.d.fact 2 (f := .glo "_law_draw") rfl)
  have B__law_draw : Binds K fd__law_draw N__law_draw_ps [] := F__law_draw.bindsN fun _ _ _ _ _ _ us hl => match us, hl with | [_, _], _ => rfl
  have g_tuple : mg "tuple" = none := He.free_ok X G (c.d.fact 6 (f := .free "tuple") rfl)
  exact ⟨fd, F, fn_ok F sc__law_grown (b := b__law_grown) <| fun cdv A outer s H E hr => by
    have hu := L2.hu_of hr
    exact (ds_cons (ds_parOOt (ps_asg (pe_tup (pa_cons (dn_lst da_nil lenA_nil) (pa_cons (dn_lst da_nil lenA_nil) pa_nil))) (pg_tup rfl (pgs_cons (pg_name sc__law_grown.nd rfl (Or.inl rfl)) (pgs_cons (pg_name sc__law_grown.nd rfl (Or.inr rfl)) pgs_nil)))))
  (ds_cons (ds_for passO rfl (di_rng1 rfl g_range (da_cons (de_var (pv 2)) da_nil) (lenA_cons lenA_nil)) (pg_name sc__law_grown.nd rfl (Or.inl rfl)) (tg_name 5)
  (ds_cons (ds_unp (ps_asg (d_call O__law_one (hr.mono (by decide)) rfl gg__law_one F__law_one.kp B__law_one passB (da_cons (de_var (pv 0)) (da_cons (de_var (pv 1)) da_nil)) (lenA_cons (lenA_cons lenA_nil))) (pg_tup rfl (pgs_cons (pg_name sc__law_grown.nd rfl (Or.inl rfl)) (pgs_cons (pg_name sc__law_grown.nd rfl (Or.inl rfl)) (pgs_cons (pg_name sc__law_grown.nd rfl (Or.inl rfl)) (pgs_cons (pg_name sc__law_grown.nd rfl (Or.inl rfl)) (pgs_cons (pg_name sc__law_grown.nd rfl (Or.inl rfl)) pgs_nil))))))) rfl (fun _ _ _ z => z))
  (ds_one (ds_if (dt_cmp (op_eqD hr.units) s_eq (sl (de_callB o_len s_len rfl g_len b_len (la_cons (nl (dn_lc (own := [("_law_child", 12)]) rfl sc__law_grown.nd (di_seqL (sl (de_var (pv 8)))) (blkOk_by (own := [("_law_child", 12)]) (by kernel_rfl)) (fun _ _ _ _ _ => (pg_name sc__law_grown.nd rfl (Or.inl rfl))) (tg_name 12) (fun _ _ _ _ _ => pts_one (by exact (dt_cmp (o_notIn hu) s_notIn (sl (de_var (pv 12))) (de_varL (pv 4)) rfl))) (fun _ _ _ z => z) (fun _ _ _ _ _ => (de_var (pv 12))))) la_nil))) (sl de_int) (nomark _))
  (ds_cons (ds_own (ps_set sc__law_grown.nd rfl (Or.inl rfl) (dn_lst da_nil lenA_nil)) (fun _ _ _ z => z))
  (ds_cons (ds_for passO rfl (di_seq (de_var (pv 8))) (pg_name sc__law_grown.nd rfl (Or.inr rfl)) (tg_name 12)
  (ds_cons (ds_set (lc_set (own := [("_law_place", 16)]) rfl sc__law_grown.nd rfl rfl rfl (di_rng1 rfl g_range (da_cons (de_callB o_len s_len rfl g_len b_len (la_cons (de_varL (pv 4)) la_nil)) da_nil) (lenA_cons lenA_nil)) (blkOk_by (own := [("_law_place", 16)]) (by kernel_rfl)) (fun _ _ _ _ _ => (pg_name sc__law_grown.nd rfl (Or.inl rfl))) (tg_name 16) (fun _ _ _ _ _ => pts_one (by exact (dt_cmp (op_eqD hr.units) s_eq (sl (de_ix (o_ix hu) s_ix (de_varL (pv 4)) (sl (de_var (pv 16))) (fun _ _ => rfl))) (sl (de_var (pv 12))) (nomark _)))) (fun _ _ _ z => z) (fun _ _ _ _ _ => (de_var (pv 16)))) (fun _ _ _ z => t_dn z))
  (ds_one (ds_appO (ps_expr (pe_bm PySem.F.plainAttrs_list PySem.F.slot_list_append PySem.F.type_list_append mt_append (pv 11) (pa_cons (d_call O__law_one (hr.mono (by decide)) rfl gg__law_one F__law_one.kp B__law_one passB (da_cons (de_var (pv 0)) (da_cons (de_var (pv 13)) da_nil)) (lenA_cons (lenA_cons lenA_nil))) pa_nil))) (fun _ _ _ z => z)))))
  (ds_cons (ds_own (ps_set sc__law_grown.nd rfl (Or.inl rfl) (dn_lst da_nil lenA_nil)) (fun _ _ _ z => z))
  (ds_cons (ds_for passO rfl (di_rng1 rfl g_range (da_cons (de_var (pv 9)) da_nil) (lenA_cons lenA_nil)) (pg_name sc__law_grown.nd rfl (Or.inl rfl)) (tg_name 15)
  (ds_one (ds_appO (ps_expr (pe_bm PySem.F.plainAttrs_list PySem.F.slot_list_append PySem.F.type_list_append mt_append (pv 14) (pa_cons (d_call O__law_one (hr.mono (by decide)) rfl gg__law_one F__law_one.kp B__law_one passB (da_cons (de_var (pv 0)) (da_cons (ns (dn_lst (da_cons de_int (da_cons de_int (da_cons (de_un un_neg s_neg (sl de_int)) (da_cons de_int (da_cons (de_op o_add s_add (sl (de_op op_pow s_pow (sl de_int) (sl de_int))) (sl de_int)) (da_cons (d_call O__law_draw (hr.mono (by decide)) rfl gg__law_draw F__law_draw.kp B__law_draw passB (da_cons (de_var (pv 0)) (da_cons (de_op op_pow s_pow (sl de_int) (sl de_int)) da_nil)) (lenA_cons (lenA_cons lenA_nil))) da_nil)))))) (lenA_cons (lenA_cons (lenA_cons (lenA_cons (lenA_cons (lenA_cons lenA_nil)))))))) da_nil)) (lenA_cons (lenA_cons lenA_nil))) pa_nil))) (fun _ _ _ z => z))))
  (ds_cons (ds_appO (ps_expr (pe_bm PySem.F.plainAttrs_list PySem.F.slot_list_append PySem.F.type_list_append mt_append (pv 3) (pa_cons (de_tup (da_cons (de_var (pv 6)) (da_cons (de_callTy call_tuple_of s_tup rfl g_tuple b_tuple (la_cons (de_varL (pv 11)) la_nil)) (da_cons (de_callTy call_tuple_of s_tup rfl g_tuple b_tuple (la_cons (de_varL (pv 14)) la_nil)) da_nil))) (lenA_cons (lenA_cons (lenA_cons lenA_nil)))) pa_nil))) (fun _ _ _ z => z))
  (ds_one (ds_appO (ps_expr (pe_bm PySem.F.plainAttrs_list PySem.F.slot_list_append PySem.F.type_list_append mt_append (pv 4) (pa_cons (de_var (pv 7)) pa_nil))) (fun _ _ _ z => z))))))))
  ds_nil))))
  (ds_frz (ds_frz (ds_one (ds_ret (de_tup (da_cons (de_var (pv 3)) (da_cons (de_var (pv 4)) da_nil)) (lenA_cons (lenA_cons lenA_nil)))))))))⟩
theorem ok__law_made {P : Program} {w : World} {K : PySem.W.Frag} {mg : Str → Option Value} {base h : Heap} (X : K.In h) (G : h.Ns mainGlobals mg) (c : SaysX fx fa fn K) :
    ∃ fd, FunD K "_law_made" "_law_made" (defArgs s__law_made) (defBody s__law_made) (defScope s__law_made) [] [] (He.fAd K ("_law_made", none)) fd ∧ FnOk P w K mg base (L2.CX P w) 1 (He.fAd K ("_law_made", none)) fd N__law_made_ps (spM K (cl K) 4 m__law_made) := by
  obtain ⟨fd, F⟩ := c.d.def_ 23 (d := d__law_made) rfl
  have g_enumerate : mg "enumerate" = none := He.free_ok X G (c.d.fact 0 (f := .free "enumerate") rfl)
  have g_int : mg "int" = none := He.free_ok X G (c.d.fact 1 (f := .free "int") rfl)
  have g_tuple : mg "tuple" = none := He.free_ok X G (c.d.fact 6 (f := .free "tuple") rfl)
  exact ⟨fd, F, fn_ok F sc__law_made (b := b__law_made) <| fun cdv A outer s H E hr => by
    have hu := L2.hu_of hr
    exact (ds_cons (ds_own (ps_set sc__law_made.nd rfl (Or.inl rfl) (dn_lst da_nil lenA_nil)) (fun _ _ _ z => z))
  (ds_cons (ds_for passO rfl (di_seq (de_var (pv 1))) (pg_name sc__law_made.nd rfl (Or.inl rfl)) (tg_name 5)
  (ds_cons (ds_set (ps_set sc__law_made.nd rfl (Or.inl rfl) de_int) (fun _ _ _ z => z))
  (ds_cons (ds_for passO rfl (di_seq (de_var (pv 5))) (pg_tup rfl (pgs_cons (pg_name sc__law_made.nd rfl (Or.inl rfl)) (pgs_cons (pg_name sc__law_made.nd rfl (Or.inl rfl)) (pgs_cons (pg_name sc__law_made.nd rfl (Or.inl rfl)) pgs_nil)))) (tg_tup (tgs_cons (tg_name 7) (tgs_cons (tg_name 8) (tgs_cons (tg_name 9) tgs_nil))) (tfl_cons (tfl_cons (tfl_cons tfl_nil))))
  (ds_cons (ds_set (ps_set sc__law_made.nd rfl (Or.inl rfl) (de_var (pv 7))) (fun _ _ _ z => z))
  (ds_cons (ds_for passO rfl (di_en rfl g_enumerate (da_cons (de_var (pv 8)) da_nil)) (pg_tup rfl (pgs_cons (pg_name sc__law_made.nd rfl (Or.inl rfl)) (pgs_cons (pg_name sc__law_made.nd rfl (Or.inl rfl)) pgs_nil))) (tg_tup (tgs_cons (tg_name 11) (tgs_cons (tg_name 12) tgs_nil)) (tfl_cons (tfl_cons tfl_nil)))
  (ds_one (ds_if (dt_cmp op_ge (s_cmp _) (sl (de_var (pv 12))) (sl de_int) (nomark _))
  (ds_one (ds_set (ps_set sc__law_made.nd rfl (Or.inl rfl) (de_op o_mul s_mul (sl (de_var (pv 10))) (sl (de_ix (o_ix hu) s_ix (sl (de_ix (o_ix hu) s_ix (sl (de_var (pv 2))) (sl (de_var (pv 11))) (fun _ _ => rfl))) (sl (de_var (pv 12))) (fun _ _ => rfl))))) (fun _ _ _ z => z)))
  ds_nil)))
  (ds_cons (ds_if (dt_cmp op_ge (s_cmp _) (sl (de_var (pv 9))) (sl de_int) (nomark _))
  (ds_one (ds_set (ps_set sc__law_made.nd rfl (Or.inl rfl) (de_op o_mul s_mul (sl (de_var (pv 10))) (sl (de_ix (o_ix hu) s_ix (sl (de_var (pv 3))) (sl (de_var (pv 9))) (fun _ _ => rfl))))) (fun _ _ _ z => z)))
  ds_nil)
  (ds_one (ds_set (ps_set sc__law_made.nd rfl (Or.inl rfl) (de_op o_add s_add (sl (de_var (pv 6))) (sl (de_var (pv 10))))) (fun _ _ _ z => z)))))))
  (ds_one (ds_appO (ps_expr (pe_bm PySem.F.plainAttrs_list PySem.F.slot_list_append PySem.F.type_list_append mt_append (pv 4) (pa_cons (de_op op_mod s_mod (sl (de_callTy call_int1 s_int rfl g_int b_int (la_cons (sl (de_var (pv 6))) la_nil))) (sl (de_op op_shl s_shl (sl de_int) (sl (de_var (pv 0)))))) pa_nil))) (fun _ _ _ z => z))))))
  (ds_one (ds_ret (de_callTy call_tuple_of s_tup rfl g_tuple b_tuple (la_cons (de_varL (pv 4)) la_nil))))))⟩
theorem ok__law_along {P : Program} {w : World} {K : PySem.W.Frag} {mg : Str → Option Value} {base h : Heap} (X : K.In h) (G : h.Ns mainGlobals mg) (c : SaysX fx fa fn K) :
    ∃ fd, FunD K "_law_along" "_law_along" (defArgs s__law_along) (defBody s__law_along) (defScope s__law_along) [] [] (He.fAd K ("_law_along", none)) fd ∧ FnOk P w K mg base (L2.CX P w) 2 (He.fAd K ("_law_along", none)) fd N__law_along_ps (spM K (cl K) 3 m__law_along) := by
  obtain ⟨fd, F⟩ := c.d.def_ 24 (d := d__law_along) rfl
  have g_dict : mg "dict" = none := He.free_ok X G (c.d.fact 8 (f := .free "dict") rfl)
  obtain ⟨fd__law_made, F__law_made, O__law_made⟩ := ok__law_made (P := P) (w := w) (base := base) X G c
  have gg__law_made : mg "_law_made" = some (.ref (He.fAd K ("_law_made", none))) := He.glo_ok X G (c.d.fact 51 (f := .glo "_law_made") rfl)
  have B__law_made : Binds K fd__law_made N__law_made_ps [] := F__law_made.bindsN fun _ _ _ _ _ _ us hl => match us, hl with | [_, _, _, _], _ => rfl
  exact ⟨fd, F, fn_ok F sc__law_along (b := b__law_along) <| fun cdv A outer s H E hr => by
    have hu := L2.hu_of hr
    exact (ds_cons (ds_parVOt (ps_asg (pe_tup (pa_cons (ns (dn_callTy (call_dictP rfl) s_dict rfl g_dict b_dict (la_cons (nl (dn_lc (own := [("_law_rule_here", 8)]) rfl sc__law_along.nd (di_seqL (sl (de_var (pv 1)))) (blkOk_by (own := [("_law_rule_here", 8)]) (by kernel_rfl)) (fun _ _ _ _ _ => (pg_name sc__law_along.nd rfl (Or.inl rfl))) (tg_name 8) (fun _ _ _ _ _ => pts_nil) (fun _ _ _ z => yes_t z) (fun _ _ _ _ _ => (de_tup (da_cons (de_ix (o_ix hu) s_ix (sl (de_var (pv 8))) (sl de_int) (fun _ _ => rfl)) (da_cons (de_var (pv 8)) da_nil)) (lenA_cons (lenA_cons lenA_nil)))))) la_nil))) (pa_cons (dn_lst da_nil lenA_nil) pa_nil))) (pg_tup rfl (pgs_cons (pg_name sc__law_along.nd rfl (Or.inl rfl)) (pgs_cons (pg_name sc__law_along.nd rfl (Or.inr rfl)) pgs_nil)))))
  (ds_cons (ds_for passO rfl (di_seq (de_var (pv 2))) (pg_tup rfl (pgs_cons (pg_name sc__law_along.nd rfl (Or.inl rfl)) (pgs_cons (pg_name sc__law_along.nd rfl (Or.inl rfl)) (pgs_cons (pg_name sc__law_along.nd rfl (Or.inl rfl)) pgs_nil)))) (tg_tup (tgs_cons (tg_name 5) (tgs_cons (tg_name 6) (tgs_cons (tg_name 7) tgs_nil))) (tfl_cons (tfl_cons (tfl_cons tfl_nil))))
  (ds_one (ds_appO (ps_expr (pe_bm PySem.F.plainAttrs_list PySem.F.slot_list_append PySem.F.type_list_append mt_append (pv 4) (pa_cons (d_call O__law_made (hr.mono (by decide)) rfl gg__law_made F__law_made.kp B__law_made passB (da_cons (de_var (pv 0)) (da_cons (de_ix (o_ix hu) s_ix (sl (de_ix (o_ix hu) s_ix (sl (de_var (pv 3))) (sl (de_var (pv 5))) (fun _ _ => rfl))) (sl de_int) (fun _ _ => rfl)) (da_cons (ns (dn_lc (own := [("_law_place", 9)]) rfl sc__law_along.nd (di_seqL (sl (de_var (pv 6)))) (blkOk_by (own := [("_law_place", 9)]) (by kernel_rfl)) (fun _ _ _ _ _ => (pg_name sc__law_along.nd rfl (Or.inl rfl))) (tg_name 9) (fun _ _ _ _ _ => pts_nil) (fun _ _ _ z => yes_t z) (fun _ _ _ _ _ => (de_ix (o_ix hu) s_ix (de_varL (pv 4)) (sl (de_var (pv 9))) (fun _ _ => rfl))))) (da_cons (de_var (pv 7)) da_nil)))) (lenA_cons (lenA_cons (lenA_cons (lenA_cons lenA_nil))))) pa_nil))) (fun _ _ _ z => z))))
  (ds_one (ds_retV (pv 4)))))⟩
theorem ok_are_steps {P : Program} {w : World} {K : PySem.W.Frag} {mg : Str → Option Value} {base h : Heap} (X : K.In h) (G : h.Ns mainGlobals mg) (c : SaysX fx fa fn K) :
    ∃ fd, FunD K "are_steps" "are_steps" (defArgs s_are_steps) (defBody s_are_steps) (defScope s_are_steps) [] [] (He.fAd K ("are_steps", none)) fd ∧ FnOk P w K mg base (L2.CX P w) 1 (He.fAd K ("are_steps", none)) fd N_are_steps_ps (spM K (cl K) 1 m_are_steps) := by
  obtain ⟨fd, F⟩ := c.d.def_ 25 (d := d_are_steps) rfl
  have g_len : mg "len" = none := He.free_ok X G (c.d.fact 3 (f := .free "len") rfl)
  obtain ⟨_, g_MAX_STEPS⟩ := He.int_ok X G (c.d.fact 53 (f := .int "MAX_STEPS" (2000)) rfl)
  have g_isinstance : mg "isinstance" = none := He.free_ok X G (c.d.fact 15 (f := .free "isinstance") rfl)
  have g_list : mg "list" = none := He.free_ok X G (c.d.fact 21 (f := .free "list") rfl)
  have g_tuple : mg "tuple" = none := He.free_ok X G (c.d.fact 6 (f := .free "tuple") rfl)
  exact ⟨fd, F, fn_ok F sc_are_steps (b := b_are_steps) <| fun cdv A outer s H E hr => by
    have hu := L2.hu_of hr
    exact (ds_one (ds_ret (de_and (de_isi2 (t := .lst) (t2 := .tup) (sl (de_var (pv 0))) (pe_bltn rfl g_list b_list rfl) (pe_bltn rfl g_tuple b_tuple rfl) rfl g_isinstance b_isinstance) (de_one (de_ch op_le op_le (s_cmp _) (s_cmp _) (sl de_int) (sl (de_callB o_len s_len rfl g_len b_len (la_cons (sl (de_var (pv 0))) la_nil))) (sl (de_c (v := .int 2000) (pe_glob rfl g_MAX_STEPS ⟨_, rfl⟩) fun _ _ _ => .int _)))))))⟩
theorem ok_Grammar_rule_named {P : Program} {w : World} {K : PySem.W.Frag} {mg : Str → Option Value} {base h : Heap} (X : K.In h) (G : h.Ns mainGlobals mg) (c : SaysX fx fa fn K) :
    ∃ fd, FunD K "rule_named" "Grammar.rule_named" (defArgs s_Grammar_rule_named) (defBody s_Grammar_rule_named) (defScope s_Grammar_rule_named) [] [] (He.fAd K ("Grammar", some "rule_named")) fd ∧ FnOk P w K mg base (L2.CX P w) 1 (He.fAd K ("Grammar", some "rule_named")) fd N_Grammar_rule_named_ps (spM K (cl K) 2 m_Grammar_rule_named) := by
  obtain ⟨fd, F⟩ := c.d.def_ 26 (d := d_Grammar_rule_named) rfl
  have cls_Grammar : Cls K (He.ga K "Grammar") := He.cls_ok (c.d.fact 40 (f := .cls "Grammar") rfl)
  have noat_Grammar_rules : NoAttr K (He.ga K "Grammar") "rules" := He.noat_ok (c.d.fact 44 (f := .noat "Grammar" "rules") rfl)
  exact ⟨fd, F, fn_ok F sc_Grammar_rule_named (b := b_Grammar_rule_named) <| fun cdv A outer s H E hr => by
    have hu := L2.hu_of hr
    exact (ds_one (ds_ret (de_ix (o_ix hu) s_ix (nl (dn_lc (own := [("rule", 2)]) rfl sc_Grammar_rule_named.nd (di_seqL (sl (de_fld (cl := cl K) (c := 0) (sl (de_var (pv 0))) cls_Grammar noat_Grammar_rules rfl))) (blkOk_by (own := [("rule", 2)]) (by kernel_rfl)) (fun _ _ _ _ _ => (pg_name sc_Grammar_rule_named.nd rfl (Or.inl rfl))) (tg_name 2) (fun _ _ _ _ _ => pts_one (by exact (dt_cmp (op_eqD hr.units) s_eq (sl (de_ix (o_ix hu) s_ix (sl (de_var (pv 2))) (sl de_int) (fun _ _ => rfl))) (sl (de_var (pv 1))) (nomark _)))) (fun _ _ _ z => z) (fun _ _ _ _ _ => (de_var (pv 2))))) (sl de_int) (fun _ _ => rfl))))⟩
theorem ok_is_step {P : Program} {w : World} {K : PySem.W.Frag} {mg : Str → Option Value} {base h : Heap} (X : K.In h) (G : h.Ns mainGlobals mg) (c : SaysX fx fa fn K) :
    ∃ fd, FunD K "is_step" "is_step" (defArgs s_is_step) (defBody s_is_step) (defScope s_is_step) [] [] (He.fAd K ("is_step", none)) fd ∧ FnOk P w K mg base (L2.CX P w) 3 (He.fAd K ("is_step", none)) fd N_is_step_ps (spM K (cl K) 3 m_is_step) := by
  obtain ⟨fd, F⟩ := c.d.def_ 27 (d := d_is_step) rfl
  have g_isinstance : mg "isinstance" = none := He.free_ok X G (c.d.fact 15 (f := .free "isinstance") rfl)
  have g_str : mg "str" = none := He.free_ok X G (c.d.fact 25 (f := .free "str") rfl)
  have g_len : mg "len" = none := He.free_ok X G (c.d.fact 3 (f := .free "len") rfl)
  have g_tuple : mg "tuple" = none := He.free_ok X G (c.d.fact 6 (f := .free "tuple") rfl)
  have cls_Grammar : Cls K (He.ga K "Grammar") := He.cls_ok (c.d.fact 40 (f := .cls "Grammar") rfl)
  have noat_Grammar_rules : NoAttr K (He.ga K "Grammar") "rules" := He.noat_ok (c.d.fact 44 (f := .noat "Grammar" "rules") rfl)
  obtain ⟨fd_Grammar_rule_named, F_Grammar_rule_named, O_Grammar_rule_named⟩ := ok_Grammar_rule_named (P := P) (w := w) (base := base) X G c
  have B_Grammar_rule_named : Binds K fd_Grammar_rule_named N_Grammar_rule_named_ps [] := F_Grammar_rule_named.bindsN fun _ _ _ _ _ _ us hl => match us, hl with | [_, _], _ => rfl
  have mt_Grammar_rule_named : Meth K (He.ga K "Grammar") "rule_named" (He.fAd K ("Grammar", some "rule_named")) := He.meth_ok (c.d.fact 55 (f := .meth "Grammar" "rule_named") rfl)
  have g_all : mg "all" = none := He.free_ok X G (c.d.fact 22 (f := .free "all") rfl)
  obtain ⟨fd_is_from, F_is_from, O_is_from⟩ := ok_is_from (P := P) (w := w) (base := base) X G c
  have gg_is_from : mg "is_from" = some (.ref (He.fAd K ("is_from", none))) := He.glo_ok X G (c.d.fact 18 (f := .glo "is_from") rfl)
  have B_is_from : Binds K fd_is_from N_is_from_ps [] := F_is_from.bindsN fun _ _ _ _ _ _ us hl => match us, hl with | [_, _, _], _ => rfl
  have g_list : mg "list" = none := He.free_ok X G (c.d.fact 21 (f := .free "list") rfl)
  obtain ⟨fd_is_int, F_is_int, O_is_int⟩ := ok_is_int (P := P) (w := w) (base := base) X G c
  have gg_is_int : mg "is_int" = some (.ref (He.fAd K ("is_int", none))) := He.glo_ok X G (c.d.fact 17 (f := .glo "is_int") rfl)
  have B_is_int : Binds K fd_is_int N_is_int_ps [] := F_is_int.bindsN fun _ _ _ _ _ _ us hl => match us, hl with | [_], _ => rfl
  exact ⟨fd, F, fn_ok F sc_is_step (b := b_is_step) <| fun cdv A outer s H E hr => by
    have hu := L2.hu_of hr
    exact (ds_cons (ds_if (PW.pt (dw_or (dt_not (dt_val (de_isi1 (t := .tup) (sl (de_var (pv 1))) (pe_bltn rfl g_tuple b_tuple rfl) rfl g_isinstance b_isinstance))) (dw_or (dt_cmp (op_neD hr.units) s_ne (sl (de_callB o_len s_len rfl g_len b_len (la_cons (sl (de_var (pv 1))) la_nil))) (sl de_int) (nomark _)) (dw_or1 (dt_not (dt_val (de_isi1 (t := .str) (sl (de_ix (o_ix hu) s_ix (sl (de_var (pv 1))) (sl de_int) (fun _ _ => rfl))) (pe_bltn rfl g_str b_str rfl) rfl g_isinstance b_isinstance)))))))
  (ds_one (ds_ret de_bl))
  ds_nil)
  (ds_cons (ds_if (dt_cmp (o_notIn hu) s_notIn (sl (de_ix (o_ix hu) s_ix (sl (de_var (pv 1))) (sl de_int) (fun _ _ => rfl))) (nl (dn_lc (own := [("rule", 8)]) rfl sc_is_step.nd (di_seqL (sl (de_fld (cl := cl K) (c := 0) (sl (de_var (pv 0))) cls_Grammar noat_Grammar_rules rfl))) (blkOk_by (own := [("rule", 8)]) (by kernel_rfl)) (fun _ _ _ _ _ => (pg_name sc_is_step.nd rfl (Or.inl rfl))) (tg_name 8) (fun _ _ _ _ _ => pts_nil) (fun _ _ _ z => yes_t z) (fun _ _ _ _ _ => (de_ix (o_ix hu) s_ix (sl (de_var (pv 8))) (sl de_int) (fun _ _ => rfl))))) rfl)
  (ds_one (ds_ret de_bl))
  ds_nil)
  (ds_cons (ds_unp (ps_asg (d_meth (cl := cl K) (c := 0) (de_var (pv 0)) cls_Grammar mt_Grammar_rule_named O_Grammar_rule_named (hr.mono (by decide)) B_Grammar_rule_named passB (da_cons (de_ix (o_ix hu) s_ix (sl (de_var (pv 1))) (sl de_int) (fun _ _ => rfl)) da_nil) (lenA_cons lenA_nil)) (pg_tup rfl (pgs_cons (pg_name sc_is_step.nd rfl (Or.inl rfl)) (pgs_cons (pg_name sc_is_step.nd rfl (Or.inl rfl)) (pgs_cons (pg_name sc_is_step.nd rfl (Or.inl rfl)) (pgs_cons (pg_name sc_is_step.nd rfl (Or.inl rfl)) (pgs_cons (pg_name sc_is_step.nd rfl (Or.inl rfl)) pgs_nil))))))) rfl (fun _ _ _ z => z))
  (ds_cons (ds_if (PW.pt (dw_or (dt_not (dt_val (de_isi1 (t := .tup) (sl (de_ix (o_ix hu) s_ix (sl (de_var (pv 1))) (sl de_int) (fun _ _ => rfl))) (pe_bltn rfl g_tuple b_tuple rfl) rfl g_isinstance b_isinstance))) (dw_or1 (dt_cmp (op_neD hr.units) s_ne (sl (de_callB o_len s_len rfl g_len b_len (la_cons (sl (de_ix (o_ix hu) s_ix (sl (de_var (pv 1))) (sl de_int) (fun _ _ => rfl))) la_nil))) (sl (de_callB o_len s_len rfl g_len b_len (la_cons (sl (de_var (pv 5))) la_nil))) (nomark _)))))
  (ds_one (ds_ret de_bl))
  ds_nil)
  (ds_cons (ds_if (dt_not (dt_val (de_callB (cr_all rfl) s_all rfl g_all b_all (la_cons (nl (dn_lc (own := [("place", 9)]) rfl sc_is_step.nd (di_seqL (sl (de_ix (o_ix hu) s_ix (sl (de_var (pv 1))) (sl de_int) (fun _ _ => rfl)))) (blkOk_by (own := [("place", 9)]) (by kernel_rfl)) (fun _ _ _ _ _ => (pg_name sc_is_step.nd rfl (Or.inl rfl))) (tg_name 9) (fun _ _ _ _ _ => pts_nil) (fun _ _ _ z => yes_t z) (fun _ _ _ _ _ => (d_call O_is_from (hr.mono (by decide)) rfl gg_is_from F_is_from.kp B_is_from passL (da_cons (de_var (pv 9)) (da_cons de_int (da_cons (de_op op_sub s_sub (sl (de_callB o_len s_len rfl g_len b_len (la_cons (sl (de_var (pv 2))) la_nil))) (sl de_int)) da_nil))) (lenA_cons (lenA_cons (lenA_cons lenA_nil))))))) la_nil))))
  (ds_one (ds_ret de_bl))
  ds_nil)
  (ds_cons (ds_if (dt_cmp (op_neD hr.units) s_ne (nl (dn_lc (own := [("place", 9)]) rfl sc_is_step.nd (di_seqL (sl (de_ix (o_ix hu) s_ix (sl (de_var (pv 1))) (sl de_int) (fun _ _ => rfl)))) (blkOk_by (own := [("place", 9)]) (by kernel_rfl)) (fun _ _ _ _ _ => (pg_name sc_is_step.nd rfl (Or.inl rfl))) (tg_name 9) (fun _ _ _ _ _ => pts_nil) (fun _ _ _ z => yes_t z) (fun _ _ _ _ _ => (de_ix (o_ix hu) s_ix (sl (de_var (pv 2))) (sl (de_var (pv 9))) (fun _ _ => rfl))))) (nl (dn_callTy call_list_of s_list rfl g_list b_list (la_cons (sl (de_var (pv 5))) la_nil))) (nomark _))
  (ds_one (ds_ret de_bl))
  ds_nil)
  (ds_one (ds_ret (de_and (de_isi1 (t := .tup) (sl (de_ix (o_ix hu) s_ix (sl (de_var (pv 1))) (sl de_int) (fun _ _ => rfl))) (pe_bltn rfl g_tuple b_tuple rfl) rfl g_isinstance b_isinstance) (de_and (de_cmp (op_eqD hr.units) s_eq (sl (de_callB o_len s_len rfl g_len b_len (la_cons (sl (de_ix (o_ix hu) s_ix (sl (de_var (pv 1))) (sl de_int) (fun _ _ => rfl))) la_nil))) (sl (de_var (pv 6))) (nomark _)) (de_one (de_callB (cr_all rfl) s_all rfl g_all b_all (la_cons (nl (dn_lc (own := [("one", 10)]) rfl sc_is_step.nd (di_seqL (sl (de_ix (o_ix hu) s_ix (sl (de_var (pv 1))) (sl de_int) (fun _ _ => rfl)))) (blkOk_by (own := [("one", 10)]) (by kernel_rfl)) (fun _ _ _ _ _ => (pg_name sc_is_step.nd rfl (Or.inl rfl))) (tg_name 10) (fun _ _ _ _ _ => pts_nil) (fun _ _ _ z => yes_t z) (fun _ _ _ _ _ => (d_call O_is_int (hr.mono (by decide)) rfl gg_is_int F_is_int.kp B_is_int passL (da_cons (de_var (pv 10)) da_nil) (lenA_cons lenA_nil))))) la_nil)))))))))))))⟩
theorem ok_kinds_of {P : Program} {w : World} {K : PySem.W.Frag} {mg : Str → Option Value} {base h : Heap} (X : K.In h) (G : h.Ns mainGlobals mg) (c : SaysX fx fa fn K) :
    ∃ fd, FunD K "kinds_of" "kinds_of" (defArgs s_kinds_of) (defBody s_kinds_of) (defScope s_kinds_of) [] [] (He.fAd K ("kinds_of", none)) fd ∧ FnOk P w K mg base (L2.CX P w) 4 (He.fAd K ("kinds_of", none)) fd N_kinds_of_ps (spM K (cl K) 2 m_kinds_of) := by
  obtain ⟨fd, F⟩ := c.d.def_ 28 (d := d_kinds_of) rfl
  obtain ⟨fd_are_steps, F_are_steps, O_are_steps⟩ := ok_are_steps (P := P) (w := w) (base := base) X G c
  have gg_are_steps : mg "are_steps" = some (.ref (He.fAd K ("are_steps", none))) := He.glo_ok X G (c.d.fact 54 (f := .glo "are_steps") rfl)
  have B_are_steps : Binds K fd_are_steps N_are_steps_ps [] := F_are_steps.bindsN fun _ _ _ _ _ _ us hl => match us, hl with | [_], _ => rfl
  have g_enumerate : mg "enumerate" = none := He.free_ok X G (c.d.fact 0 (f := .free "enumerate") rfl)
  obtain ⟨fd_is_step, F_is_step, O_is_step⟩ := ok_is_step (P := P) (w := w) (base := base) X G c
  have gg_is_step : mg "is_step" = some (.ref (He.fAd K ("is_step", none))) := He.glo_ok X G (c.d.fact 56 (f := .glo "is_step") rfl)
  have B_is_step : Binds K fd_is_step N_is_step_ps [] := F_is_step.bindsN fun _ _ _ _ _ _ us hl => match us, hl with | [_, _, _], _ => rfl
  obtain ⟨fd_Grammar_rule_named, F_Grammar_rule_named, O_Grammar_rule_named⟩ := ok_Grammar_rule_named (P := P) (w := w) (base := base) X G c
  have B_Grammar_rule_named : Binds K fd_Grammar_rule_named N_Grammar_rule_named_ps [] := F_Grammar_rule_named.bindsN fun _ _ _ _ _ _ us hl => match us, hl with | [_, _], _ => rfl
  have cls_Grammar : Cls K (He.ga K "Grammar") := He.cls_ok (c.d.fact 40 (f := .cls "Grammar") rfl)
  have mt_Grammar_rule_named : Meth K (He.ga K "Grammar") "rule_named" (He.fAd K ("Grammar", some "rule_named")) := He.meth_ok (c.d.fact 55 (f := .meth "Grammar" "rule_named") rfl)
  exact ⟨fd, F, fn_ok F sc_kinds_of (b := b_kinds_of) <| fun cdv A outer s H E hr => by
    have hu := L2.hu_of hr
    exact (ds_cons (ds_if (dt_not (dt_val (d_call O_are_steps (hr.mono (by decide)) rfl gg_are_steps F_are_steps.kp B_are_steps passB (da_cons (de_var (pv 1)) da_nil) (lenA_cons lenA_nil))))
  (ds_one ds_never)
  ds_nil)
  (ds_cons (ds_own (ps_set sc_kinds_of.nd rfl (Or.inl rfl) (dn_lst da_nil lenA_nil)) (fun _ _ _ z => z))
  (ds_cons (ds_for passO rfl (di_en rfl g_enumerate (da_cons (de_var (pv 1)) da_nil)) (pg_tup rfl (pgs_cons (pg_name sc_kinds_of.nd rfl (Or.inl rfl)) (pgs_cons (pg_name sc_kinds_of.nd rfl (Or.inl rfl)) pgs_nil))) (tg_tup (tgs_cons (tg_name 3) (tgs_cons (tg_name 4) tgs_nil)) (tfl_cons (tfl_cons tfl_nil)))
  (ds_cons (ds_if (dt_not (dt_val (d_callL O_is_step (hr.mono (by decide)) rfl gg_is_step F_is_step.kp B_is_step passB (la_cons (sl (de_var (pv 0))) (la_cons (sl (de_var (pv 4))) (la_cons (de_varL (pv 2)) la_nil))) (lenA_cons (lenA_cons (lenA_cons lenA_nil))))))
  (ds_one ds_never)
  ds_nil)
  (ds_one (ds_appO (ps_expr (pe_bm PySem.F.plainAttrs_list PySem.F.slot_list_append PySem.F.type_list_append mt_append (pv 2) (pa_cons (de_ix (o_ix hu) s_ix (sl (d_meth (cl := cl K) (c := 0) (de_var (pv 0)) cls_Grammar mt_Grammar_rule_named O_Grammar_rule_named (hr.mono (by decide)) B_Grammar_rule_named passB (da_cons (de_ix (o_ix hu) s_ix (sl (de_var (pv 4))) (sl de_int) (fun _ _ => rfl)) da_nil) (lenA_cons lenA_nil))) (sl de_int) (fun _ _ => rfl)) pa_nil))) (fun _ _ _ z => z)))))
  (ds_one (ds_retV (pv 2))))))⟩
theorem ok_kind_of {P : Program} {w : World} {K : PySem.W.Frag} {mg : Str → Option Value} {base h : Heap} (X : K.In h) (G : h.Ns mainGlobals mg) (c : SaysX fx fa fn K) :
    ∃ fd, FunD K "kind_of" "kind_of" (defArgs s_kind_of) (defBody s_kind_of) (defScope s_kind_of) [] [] (He.fAd K ("kind_of", none)) fd ∧ FnOk P w K mg base (L2.CX P w) 5 (He.fAd K ("kind_of", none)) fd N_kind_of_ps (spM K (cl K) 2 m_kind_of) := by
  obtain ⟨fd, F⟩ := c.d.def_ 29 (d := d_kind_of) rfl
  obtain ⟨fd_kinds_of, F_kinds_of, O_kinds_of⟩ := ok_kinds_of (P := P) (w := w) (base := base) X G c
  have gg_kinds_of : mg "kinds_of" = some (.ref (He.fAd K ("kinds_of", none))) := He.glo_ok X G (c.d.fact 57 (f := .glo "kinds_of") rfl)
  have B_kinds_of : Binds K fd_kinds_of N_kinds_of_ps [] := F_kinds_of.bindsN fun _ _ _ _ _ _ us hl => match us, hl with | [_, _], _ => rfl
  exact ⟨fd, F, fn_ok F sc_kind_of (b := b_kind_of) <| fun cdv A outer s H E hr => by
    have hu := L2.hu_of hr
    exact (ds_one (ds_ret (de_ix (o_ix hu) s_ix (sl (d_call O_kinds_of (hr.mono (by decide)) rfl gg_kinds_of F_kinds_of.kp B_kinds_of passB (da_cons (de_var (pv 0)) (da_cons (de_var (pv 1)) da_nil)) (lenA_cons (lenA_cons lenA_nil)))) (sl (de_un un_neg s_neg (sl de_int))) (fun _ _ => rfl))))⟩
theorem ok_sum_of {P : Program} {w : World} {K : PySem.W.Frag} {mg : Str → Option Value} {base h : Heap} (X : K.In h) (G : h.Ns mainGlobals mg) (c : SaysX fx fa fn K) :
    ∃ fd, FunD K "sum_of" "sum_of" (defArgs s_sum_of) (defBody s_sum_of) (defScope s_sum_of) [] [] (He.fAd K ("sum_of", none)) fd ∧ FnOk P w K mg base (L2.CX P w) 1 (He.fAd K ("sum_of", none)) fd N_sum_of_ps (spM K (cl K) 4 m_sum_of) := by
  obtain ⟨fd, F⟩ := c.d.def_ 30 (d := d_sum_of) rfl
  have g_zip : mg "zip" = none := He.free_ok X G (c.d.fact 33 (f := .free "zip") rfl)
  exact ⟨fd, F, fn_ok F sc_sum_of (b := b_sum_of) <| fun cdv A outer s H E hr => by
    have hu := L2.hu_of hr
    exact (ds_cons (ds_set (ps_set sc_sum_of.nd rfl (Or.inl rfl) de_int) (fun _ _ _ z => z))
  (ds_cons (ds_for passO rfl (di_seq (de_var (pv 0))) (pg_tup rfl (pgs_cons (pg_name sc_sum_of.nd rfl (Or.inl rfl)) (pgs_cons (pg_name sc_sum_of.nd rfl (Or.inl rfl)) (pgs_cons (pg_name sc_sum_of.nd rfl (Or.inl rfl)) pgs_nil)))) (tg_tup (tgs_cons (tg_name 5) (tgs_cons (tg_name 6) (tgs_cons (tg_name 7) tgs_nil))) (tfl_cons (tfl_cons (tfl_cons tfl_nil))))
  (ds_cons (ds_set (ps_set sc_sum_of.nd rfl (Or.inl rfl) (de_if (dt_cmp (op_eqD hr.units) s_eq (sl (de_var (pv 7))) (sl (de_un un_neg s_neg (sl de_int))) (nomark _)) (de_var (pv 5)) (de_op o_mul s_mul (sl (de_var (pv 5))) (sl (de_ix (o_ix hu) s_ix (sl (de_var (pv 2))) (sl (de_var (pv 7))) (fun _ _ => rfl)))))) (fun _ _ _ z => z))
  (ds_cons (ds_for passO rfl (di_zp rfl g_zip (da_cons (de_var (pv 6)) (da_cons (de_var (pv 1)) da_nil))) (pg_tup rfl (pgs_cons (pg_name sc_sum_of.nd rfl (Or.inl rfl)) (pgs_cons (pg_name sc_sum_of.nd rfl (Or.inl rfl)) pgs_nil))) (tg_tup (tgs_cons (tg_name 9) (tgs_cons (tg_name 10) tgs_nil)) (tfl_cons (tfl_cons tfl_nil)))
  (ds_one (ds_if (dt_cmp (op_neD hr.units) s_ne (sl (de_var (pv 9))) (sl (de_un un_neg s_neg (sl de_int))) (nomark _))
  (ds_one (ds_set (ps_set sc_sum_of.nd rfl (Or.inl rfl) (de_op op_mod s_mod (sl (de_op o_mul s_mul (sl (de_var (pv 8))) (sl (de_ix (o_ix hu) s_ix (sl (de_var (pv 10))) (sl (de_var (pv 9))) (fun _ _ => rfl))))) (sl (de_var (pv 3))))) (fun _ _ _ z => z)))
  ds_nil)))
  (ds_one (ds_aug (ps_aug sc_sum_of.nd rfl (Or.inl rfl) (de_var (pv 8)) ip_add) (fun _ _ _ z => z))))))
  (ds_one (ds_ret (de_op op_mod s_mod (sl (de_var (pv 4))) (sl (de_var (pv 3))))))))⟩
theorem ok_made {P : Program} {w : World} {K : PySem.W.Frag} {mg : Str → Option Value} {base h : Heap} (X : K.In h) (G : h.Ns mainGlobals mg) (c : SaysX fx fa fn K) :
    ∃ fd, FunD K "made" "made" (defArgs s_made) (defBody s_made) (defScope s_made) [] [] (He.fAd K ("made", none)) fd ∧ FnOk P w K mg base (L2.CX P w) 2 (He.fAd K ("made", none)) fd N_made_ps (spM K (cl K) 4 m_made) := by
  obtain ⟨fd, F⟩ := c.d.def_ 31 (d := d_made) rfl
  have g_tuple : mg "tuple" = none := He.free_ok X G (c.d.fact 6 (f := .free "tuple") rfl)
  obtain ⟨fd_sum_of, F_sum_of, O_sum_of⟩ := ok_sum_of (P := P) (w := w) (base := base) X G c
  have gg_sum_of : mg "sum_of" = some (.ref (He.fAd K ("sum_of", none))) := He.glo_ok X G (c.d.fact 59 (f := .glo "sum_of") rfl)
  have B_sum_of : Binds K fd_sum_of N_sum_of_ps [] := F_sum_of.bindsN fun _ _ _ _ _ _ us hl => match us, hl with | [_, _, _, _], _ => rfl
  exact ⟨fd, F, fn_ok F sc_made (b := b_made) <| fun cdv A outer s H E hr => by
    have hu := L2.hu_of hr
    exact (ds_one (ds_ret (de_callTy call_tuple_of s_tup rfl g_tuple b_tuple (la_cons (nl (dn_lc (own := [("terms", 4)]) rfl sc_made.nd (di_seqL (sl (de_var (pv 0)))) (blkOk_by (own := [("terms", 4)]) (by kernel_rfl)) (fun _ _ _ _ _ => (pg_name sc_made.nd rfl (Or.inl rfl))) (tg_name 4) (fun _ _ _ _ _ => pts_nil) (fun _ _ _ z => yes_t z) (fun _ _ _ _ _ => (d_call O_sum_of (hr.mono (by decide)) rfl gg_sum_of F_sum_of.kp B_sum_of passL (da_cons (de_var (pv 4)) (da_cons (de_var (pv 1)) (da_cons (de_var (pv 2)) (da_cons (de_var (pv 3)) da_nil)))) (lenA_cons (lenA_cons (lenA_cons (lenA_cons lenA_nil)))))))) la_nil))))⟩
theorem ok_values_along {P : Program} {w : World} {K : PySem.W.Frag} {mg : Str → Option Value} {base h : Heap} (X : K.In h) (G : h.Ns mainGlobals mg) (c : SaysX fx fa fn K) :
    ∃ fd, FunD K "values_along" "values_along" (defArgs s_values_along) (defBody s_values_along) (defScope s_values_along) [] [] (He.fAd K ("values_along", none)) fd ∧ FnOk P w K mg base (L2.CX P w) 3 (He.fAd K ("values_along", none)) fd N_values_along_ps (spM K (cl K) 3 m_values_along) := by
  obtain ⟨fd, F⟩ := c.d.def_ 32 (d := d_values_along) rfl
  have cls_Grammar : Cls K (He.ga K "Grammar") := He.cls_ok (c.d.fact 40 (f := .cls "Grammar") rfl)
  have noat_Grammar_width : NoAttr K (He.ga K "Grammar") "width" := He.noat_ok (c.d.fact 41 (f := .noat "Grammar" "width") rfl)
  have g_enumerate : mg "enumerate" = none := He.free_ok X G (c.d.fact 0 (f := .free "enumerate") rfl)
  obtain ⟨fd_made, F_made, O_made⟩ := ok_made (P := P) (w := w) (base := base) X G c
  have gg_made : mg "made" = some (.ref (He.fAd K ("made", none))) := He.glo_ok X G (c.d.fact 60 (f := .glo "made") rfl)
  have B_made : Binds K fd_made N_made_ps [] := F_made.bindsN fun _ _ _ _ _ _ us hl => match us, hl with | [_, _, _, _], _ => rfl
  obtain ⟨fd_Grammar_rule_named, F_Grammar_rule_named, O_Grammar_rule_named⟩ := ok_Grammar_rule_named (P := P) (w := w) (base := base) X G c
  have B_Grammar_rule_named : Binds K fd_Grammar_rule_named N_Grammar_rule_named_ps [] := F_Grammar_rule_named.bindsN fun _ _ _ _ _ _ us hl => match us, hl with | [_, _], _ => rfl
  have mt_Grammar_rule_named : Meth K (He.ga K "Grammar") "rule_named" (He.fAd K ("Grammar", some "rule_named")) := He.meth_ok (c.d.fact 55 (f := .meth "Grammar" "rule_named") rfl)
  exact ⟨fd, F, fn_ok F sc_values_along (b := b_values_along) <| fun cdv A outer s H E hr => by
    have hu := L2.hu_of hr
    exact (ds_cons (ds_parVOt (ps_asg (pe_tup (pa_cons (de_op op_shl s_shl (sl de_int) (sl (de_fld (cl := cl K) (c := 0) (sl (de_var (pv 0))) cls_Grammar noat_Grammar_width rfl))) (pa_cons (dn_lst da_nil lenA_nil) pa_nil))) (pg_tup rfl (pgs_cons (pg_name sc_values_along.nd rfl (Or.inl rfl)) (pgs_cons (pg_name sc_values_along.nd rfl (Or.inr rfl)) pgs_nil)))))
  (ds_cons (ds_for passO rfl (di_en rfl g_enumerate (da_cons (de_var (pv 1)) da_nil)) (pg_tup rfl (pgs_cons (pg_name sc_values_along.nd rfl (Or.inl rfl)) (pgs_cons (pg_name sc_values_along.nd rfl (Or.inl rfl)) pgs_nil))) (tg_tup (tgs_cons (tg_name 5) (tgs_cons (tg_name 6) tgs_nil)) (tfl_cons (tfl_cons tfl_nil)))
  (ds_one (ds_if (dt_cmp (o_in hu) s_in (sl (de_var (pv 5))) (sl (de_var (pv 2))) rfl)
  (ds_one (ds_appO (ps_expr (pe_bm PySem.F.plainAttrs_list PySem.F.slot_list_append PySem.F.type_list_append mt_append (pv 4) (pa_cons (de_ix (o_ix hu) s_ix (sl (de_var (pv 2))) (sl (de_var (pv 5))) (fun _ _ => rfl)) pa_nil))) (fun _ _ _ z => z)))
  (ds_cons (ds_set (lc_set (own := [("place", 8)]) rfl sc_values_along.nd rfl rfl rfl (di_seqL (sl (de_ix (o_ix hu) s_ix (sl (de_var (pv 6))) (sl de_int) (fun _ _ => rfl)))) (blkOk_by (own := [("place", 8)]) (by kernel_rfl)) (fun _ _ _ _ _ => (pg_name sc_values_along.nd rfl (Or.inl rfl))) (tg_name 8) (fun _ _ _ _ _ => pts_nil) (fun _ _ _ z => yes_t z) (fun _ _ _ _ _ => (de_ix (o_ix hu) s_ix (de_varL (pv 4)) (sl (de_var (pv 8))) (fun _ _ => rfl)))) (fun _ _ _ z => t_dn z))
  (ds_one (ds_appO (ps_expr (pe_bm PySem.F.plainAttrs_list PySem.F.slot_list_append PySem.F.type_list_append mt_append (pv 4) (pa_cons (d_call O_made (hr.mono (by decide)) rfl gg_made F_made.kp B_made passB (da_cons (de_ix (o_ix hu) s_ix (sl (d_meth (cl := cl K) (c := 0) (de_var (pv 0)) cls_Grammar mt_Grammar_rule_named O_Grammar_rule_named (hr.mono (by decide)) B_Grammar_rule_named passB (da_cons (de_ix (o_ix hu) s_ix (sl (de_var (pv 6))) (sl de_int) (fun _ _ => rfl)) da_nil) (lenA_cons lenA_nil))) (sl de_int) (fun _ _ => rfl)) (da_cons (de_var (pv 7)) (da_cons (de_ix (o_ix hu) s_ix (sl (de_var (pv 6))) (sl de_int) (fun _ _ => rfl)) (da_cons (de_var (pv 3)) da_nil)))) (lenA_cons (lenA_cons (lenA_cons (lenA_cons lenA_nil))))) pa_nil))) (fun _ _ _ z => z)))))))
  (ds_one (ds_retV (pv 4)))))⟩
theorem ok_value {P : Program} {w : World} {K : PySem.W.Frag} {mg : Str → Option Value} {base h : Heap} (X : K.In h) (G : h.Ns mainGlobals mg) (c : SaysX fx fa fn K) :
    ∃ fd, FunD K "value" "value" (defArgs s_value) (defBody s_value) (defScope s_value) [] [] (He.fAd K ("value", none)) fd ∧ FnOk P w K mg base (L2.CX P w) 5 (He.fAd K ("value", none)) fd N_value_ps (spM K (cl K) 2 m_value) := by
  obtain ⟨fd, F⟩ := c.d.def_ 33 (d := d_value) rfl
  obtain ⟨fd_kinds_of, F_kinds_of, O_kinds_of⟩ := ok_kinds_of (P := P) (w := w) (base := base) X G c
  have gg_kinds_of : mg "kinds_of" = some (.ref (He.fAd K ("kinds_of", none))) := He.glo_ok X G (c.d.fact 57 (f := .glo "kinds_of") rfl)
  have B_kinds_of : Binds K fd_kinds_of N_kinds_of_ps [] := F_kinds_of.bindsN fun _ _ _ _ _ _ us hl => match us, hl with | [_, _], _ => rfl
  obtain ⟨fd_values_along, F_values_along, O_values_along⟩ := ok_values_along (P := P) (w := w) (base := base) X G c
  have gg_values_along : mg "values_along" = some (.ref (He.fAd K ("values_along", none))) := He.glo_ok X G (c.d.fact 61 (f := .glo "values_along") rfl)
  have B_values_along : Binds K fd_values_along N_values_along_ps [] := F_values_along.bindsN fun _ _ _ _ _ _ us hl => match us, hl with | [_, _, _], _ => rfl
  exact ⟨fd, F, fn_ok F sc_value (b := b_value) <| fun cdv A outer s H E hr => by
    have hu := L2.hu_of hr
    exact (ds_cons (ds_expr (ps_expr (d_call O_kinds_of (hr.mono (by decide)) rfl gg_kinds_of F_kinds_of.kp B_kinds_of passB (da_cons (de_var (pv 0)) (da_cons (de_var (pv 1)) da_nil)) (lenA_cons (lenA_cons lenA_nil)))) (fun _ _ _ z => z))
  (ds_one (ds_ret (de_ix (o_ix hu) s_ix (sl (d_call O_values_along (hr.mono (by decide)) rfl gg_values_along F_values_along.kp B_values_along passB (da_cons (de_var (pv 0)) (da_cons (de_var (pv 1)) (da_cons (ns dn_dict) da_nil))) (lenA_cons (lenA_cons (lenA_cons lenA_nil))))) (sl (de_un un_neg s_neg (sl de_int))) (fun _ _ => rfl)))))⟩
theorem ok_counted {P : Program} {w : World} {K : PySem.W.Frag} {mg : Str → Option Value} {base h : Heap} (X : K.In h) (G : h.Ns mainGlobals mg) (c : SaysX fx fa fn K) :
    ∃ fd, FunD K "counted" "counted" (defArgs s_counted) (defBody s_counted) (defScope s_counted) [] [] (He.fAd K ("counted", none)) fd ∧ FnOk P w K mg base (L2.CX P w) 1 (He.fAd K ("counted", none)) fd N_counted_ps (spM K (cl K) 2 m_counted) := by
  obtain ⟨fd, F⟩ := c.d.def_ 34 (d := d_counted) rfl
  have g_zip : mg "zip" = none := He.free_ok X G (c.d.fact 33 (f := .free "zip") rfl)
  have g_len : mg "len" = none := He.free_ok X G (c.d.fact 3 (f := .free "len") rfl)
  have g_sum : mg "sum" = none := He.free_ok X G (c.d.fact 63 (f := .free "sum") rfl)
  exact ⟨fd, F, fn_ok F sc_counted (b := b_counted) <| fun cdv A outer s H E hr => by
    have hu := L2.hu_of hr
    exact (ds_cons (ds_own (ps_set sc_counted.nd rfl (Or.inr rfl) (dn_lst da_nil lenA_nil)) (fun _ _ _ z => z))
  (ds_cons (ds_for passO rfl (di_zp rfl g_zip (da_cons (de_var (pv 0)) (da_cons (de_var (pv 1)) da_nil))) (pg_tup rfl (pgs_cons (pg_name sc_counted.nd rfl (Or.inl rfl)) (pgs_cons (pg_name sc_counted.nd rfl (Or.inl rfl)) pgs_nil))) (tg_tup (tgs_cons (tg_name 3) (tgs_cons (tg_name 4) tgs_nil)) (tfl_cons (tfl_cons tfl_nil)))
  (ds_one (ds_appO (ps_expr (pe_bm PySem.F.plainAttrs_list PySem.F.slot_list_append PySem.F.type_list_append mt_append (pv 2) (pa_cons (de_if (dt_cmp (op_eqD hr.units) s_eq (sl (de_callB o_len s_len rfl g_len b_len (la_cons (sl (de_var (pv 3))) la_nil))) (sl de_int) (nomark _)) (de_op o_add s_add (sl (de_var (pv 4))) (sl (de_callB (cr_sum rfl) s_sum rfl g_sum b_sum (la_cons (nl (dn_lc (own := [("place", 5)]) rfl sc_counted.nd (di_seqL (sl (de_ix (o_ix hu) s_ix (sl (de_var (pv 3))) (sl de_int) (fun _ _ => rfl)))) (blkOk_by (own := [("place", 5)]) (by kernel_rfl)) (fun _ _ _ _ _ => (pg_name sc_counted.nd rfl (Or.inl rfl))) (tg_name 5) (fun _ _ _ _ _ => pts_nil) (fun _ _ _ z => yes_t z) (fun _ _ _ _ _ => (de_ix (o_ix hu) s_ix (de_varL (pv 2)) (sl (de_var (pv 5))) (fun _ _ => rfl))))) la_nil)))) (de_var (pv 4))) pa_nil))) (fun _ _ _ z => z))))
  (ds_one (ds_ret (de_ix (o_ix hu) s_ix (de_varL (pv 2)) (sl (de_un un_neg s_neg (sl de_int))) (fun _ _ => rfl))))))⟩
theorem ok_count_nodes {P : Program} {w : World} {K : PySem.W.Frag} {mg : Str → Option Value} {base h : Heap} (X : K.In h) (G : h.Ns mainGlobals mg) (c : SaysX fx fa fn K) :
    ∃ fd, FunD K "count_nodes" "count_nodes" (defArgs s_count_nodes) (defBody s_count_nodes) (defScope s_count_nodes) [] [] (He.fAd K ("count_nodes", none)) fd ∧ FnOk P w K mg base (L2.CX P w) 5 (He.fAd K ("count_nodes", none)) fd N_count_nodes_ps (spM K (cl K) 2 m_count_nodes) := by
  obtain ⟨fd, F⟩ := c.d.def_ 35 (d := d_count_nodes) rfl
  obtain ⟨fd_kinds_of, F_kinds_of, O_kinds_of⟩ := ok_kinds_of (P := P) (w := w) (base := base) X G c
  have gg_kinds_of : mg "kinds_of" = some (.ref (He.fAd K ("kinds_of", none))) := He.glo_ok X G (c.d.fact 57 (f := .glo "kinds_of") rfl)
  have B_kinds_of : Binds K fd_kinds_of N_kinds_of_ps [] := F_kinds_of.bindsN fun _ _ _ _ _ _ us hl => match us, hl with | [_, _], _ => rfl
  obtain ⟨fd_counted, F_counted, O_counted⟩ := ok_counted (P := P) (w := w) (base := base) X G c
  have gg_counted : mg "counted" = some (.ref (He.fAd K ("counted", none))) := He.glo_ok X G (c.d.fact 64 (f := .glo "counted") rfl)
  have B_counted : Binds K fd_counted N_counted_ps [] := F_counted.bindsN fun _ _ _ _ _ _ us hl => match us, hl with | [_, _], _ => rfl
  have g_len : mg "len" = none := He.free_ok X G (c.d.fact 3 (f := .free "len") rfl)
  exact ⟨fd, F, fn_ok F sc_count_nodes (b := b_count_nodes) <| fun cdv A outer s H E hr => by
    have hu := L2.hu_of hr
    exact (ds_cons (ds_expr (ps_expr (d_call O_kinds_of (hr.mono (by decide)) rfl gg_kinds_of F_kinds_of.kp B_kinds_of passB (da_cons (de_var (pv 0)) (da_cons (de_var (pv 1)) da_nil)) (lenA_cons (lenA_cons lenA_nil)))) (fun _ _ _ z => z))
  (ds_one (ds_ret (d_call O_counted (hr.mono (by decide)) rfl gg_counted F_counted.kp B_counted passB (da_cons (de_var (pv 1)) (da_cons (ns (de_opN op_rep s_mulL (nl (dn_lst (da_cons de_int da_nil) (lenA_cons lenA_nil))) (sl (de_callB o_len s_len rfl g_len b_len (la_cons (sl (de_var (pv 1))) la_nil))))) da_nil)) (lenA_cons (lenA_cons lenA_nil))))))⟩
theorem ok__law_nodes {P : Program} {w : World} {K : PySem.W.Frag} {mg : Str → Option Value} {base h : Heap} (X : K.In h) (G : h.Ns mainGlobals mg) (c : SaysX fx fa fn K) :
    ∃ fd, FunD K "_law_nodes" "_law_nodes" (defArgs s__law_nodes) (defBody s__law_nodes) (defScope s__law_nodes) [] [] (He.fAd K ("_law_nodes", none)) fd ∧ FnOk P w K mg base (L2.CX P w) 1 (He.fAd K ("_law_nodes", none)) fd N__law_nodes_ps (spM K (cl K) 1 m__law_nodes) := by
  obtain ⟨fd, F⟩ := c.d.def_ 36 (d := d__law_nodes) rfl
  have g_sum : mg "sum" = none := He.free_ok X G (c.d.fact 63 (f := .free "sum") rfl)
  exact ⟨fd, F, fn_ok F sc__law_nodes (b := b__law_nodes) <| fun cdv A outer s H E hr => by
    have hu := L2.hu_of hr
    exact (ds_cons (ds_own (ps_set sc__law_nodes.nd rfl (Or.inr rfl) (dn_lst da_nil lenA_nil)) (fun _ _ _ z => z))
  (ds_cons (ds_for passO rfl (di_seq (de_var (pv 0))) (pg_tup rfl (pgs_cons (pg_name sc__law_nodes.nd rfl (Or.inl rfl)) (pgs_cons (pg_name sc__law_nodes.nd rfl (Or.inl rfl)) (pgs_cons (pg_name sc__law_nodes.nd rfl (Or.inl rfl)) pgs_nil)))) (tg_tup (tgs_cons (tg_name 2) (tgs_cons (tg_name 3) (tgs_cons (tg_name 4) tgs_nil))) (tfl_cons (tfl_cons (tfl_cons tfl_nil))))
  (ds_one (ds_appO (ps_expr (pe_bm PySem.F.plainAttrs_list PySem.F.slot_list_append PySem.F.type_list_append mt_append (pv 1) (pa_cons (de_op o_add s_add (sl de_int) (sl (de_callB (cr_sum rfl) s_sum rfl g_sum b_sum (la_cons (nl (dn_lc (own := [("_law_place", 5)]) rfl sc__law_nodes.nd (di_seqL (sl (de_var (pv 3)))) (blkOk_by (own := [("_law_place", 5)]) (by kernel_rfl)) (fun _ _ _ _ _ => (pg_name sc__law_nodes.nd rfl (Or.inl rfl))) (tg_name 5) (fun _ _ _ _ _ => pts_nil) (fun _ _ _ z => yes_t z) (fun _ _ _ _ _ => (de_ix (o_ix hu) s_ix (de_varL (pv 1)) (sl (de_var (pv 5))) (fun _ _ => rfl))))) la_nil)))) pa_nil))) (fun _ _ _ z => z))))
  (ds_one (ds_ret (de_ix (o_ix hu) s_ix (de_varL (pv 1)) (sl (de_un un_neg s_neg (sl de_int))) (fun _ _ => rfl))))))⟩
theorem ok__law_value {P : Program} {w : World} {K : PySem.W.Frag} {mg : Str → Option Value} {base h : Heap} (X : K.In h) (G : h.Ns mainGlobals mg) (c : SaysX fx fa fn K) :
    ∃ fd, FunD K "_law_value" "_law_value" (defArgs s__law_value) (defBody s__law_value) (defScope s__law_value) [] [] (He.fAd K ("_law_value", none)) fd ∧ FnOk P w K mg base (L2.CX P w) 1 (He.fAd K ("_law_value", none)) fd N__law_value_ps (spM K (cl K) 3 m__law_value) := by
  obtain ⟨fd, F⟩ := c.d.def_ 37 (d := d__law_value) rfl
  have g_int : mg "int" = none := He.free_ok X G (c.d.fact 1 (f := .free "int") rfl)
  have g_sum : mg "sum" = none := He.free_ok X G (c.d.fact 63 (f := .free "sum") rfl)
  have g_zip : mg "zip" = none := He.free_ok X G (c.d.fact 33 (f := .free "zip") rfl)
  exact ⟨fd, F, fn_ok F sc__law_value (b := b__law_value) <| fun cdv A outer s H E hr => by
    have hu := L2.hu_of hr
    exact (ds_one (ds_ret (de_op op_mod s_mod (sl (de_callTy call_int1 s_int rfl g_int b_int (la_cons (sl (de_op o_add s_add (sl (de_ix (o_ix hu) s_ix (sl (de_var (pv 1))) (sl de_int) (fun _ _ => rfl))) (sl (de_callB (cr_sum rfl) s_sum rfl g_sum b_sum (la_cons (nl (dn_lc (own := [("_law_x", 3), ("_law_y", 4)]) rfl sc__law_value.nd (di_zpL rfl g_zip (la_cons (sl (de_sl (sl (de_var (pv 1))) (do_some de_int) do_none)) (la_cons (sl (de_var (pv 2))) la_nil))) (blkOk_by (own := [("_law_x", 3), ("_law_y", 4)]) (by kernel_rfl)) (fun _ _ _ _ _ => (pg_tup rfl (pgs_cons (pg_name sc__law_value.nd rfl (Or.inl rfl)) (pgs_cons (pg_name sc__law_value.nd rfl (Or.inl rfl)) pgs_nil)))) (tg_tup (tgs_cons (tg_name 3) (tgs_cons (tg_name 4) tgs_nil)) (tfl_cons (tfl_cons tfl_nil))) (fun _ _ _ _ _ => pts_nil) (fun _ _ _ z => yes_t z) (fun _ _ _ _ _ => (de_op o_mul s_mul (sl (de_var (pv 3))) (sl (de_var (pv 4))))))) la_nil))))) la_nil))) (sl (de_op op_shl s_shl (sl de_int) (sl (de_var (pv 0))))))))⟩
theorem ok_NotTop___init__ {P : Program} {w : World} {K : PySem.W.Frag} {mg : Str → Option Value} {base h : Heap} (X : K.In h) (G : h.Ns mainGlobals mg) (c : SaysX fx fa fn K) :
    ∃ fd, FunD K "__init__" "NotTop.__init__" (defArgs s_NotTop___init__) (defBody s_NotTop___init__) (defScope s_NotTop___init__) [] [] (He.fAd K ("NotTop", some "__init__")) fd ∧ FnOk P w K mg base (L2.CX P w) 1 (He.fAd K ("NotTop", some "__init__")) fd N_NotTop___init___ps (spX1 (He.ga K "NotTop") "kind") := by
  obtain ⟨fd, F⟩ := c.d.def_ 38 (d := d_NotTop___init__) rfl
  have oe_NotTop := fx_oex_ok (c.fx 0 (f := fx_oex "NotTop") rfl)
  have no_NotTop_kind := fx_no_ok (c.fx 1 (f := fx_no "NotTop" "kind") rfl)
  have gg_AttrError : mg "AttrError" = some (.ref (He.ga K "AttrError")) := He.glo_ok X G (c.d.fact 69 (f := .glo "AttrError") rfl)
  have aei := fx_aei_ok (c.fx 2 (f := fx_aei "AttrError") rfl)
  exact ⟨fd, F, exi1 F sc_NotTop___init__ oe_NotTop.oc no_NotTop_kind fun cdv A outer s H E hr => pss_cons (ps_expr (pe_aeinit rfl gg_AttrError aei (pa_cons (pv 0) (pa_cons pe_str pa_nil)))) (pss_one (ps_ost (pv 0) (pv 1)))⟩
theorem ok_value_of {P : Program} {w : World} {K : PySem.W.Frag} {mg : Str → Option Value} {base h : Heap} (X : K.In h) (G : h.Ns mainGlobals mg) (c : SaysX fx fa fn K) :
    ∃ fd, FunD K "value_of" "value_of" (defArgs s_value_of) (defBody s_value_of) (defScope s_value_of) [] [] (He.fAd K ("value_of", none)) fd ∧ FnOk P w K mg base (L2.CX P w) 1 (He.fAd K ("value_of", none)) fd N_value_of_ps (spM K (cl K) 3 m_value_of) := by
  obtain ⟨fd, F⟩ := c.d.def_ 39 (d := d_value_of) rfl
  have g_sum : mg "sum" = none := He.free_ok X G (c.d.fact 63 (f := .free "sum") rfl)
  have g_zip : mg "zip" = none := He.free_ok X G (c.d.fact 33 (f := .free "zip") rfl)
  exact ⟨fd, F, fn_ok F sc_value_of (b := b_value_of) <| fun cdv A outer s H E hr => by
    have hu := L2.hu_of hr
    exact (ds_one (ds_ret (de_op op_mod s_mod (sl (de_op o_add s_add (sl (de_ix (o_ix hu) s_ix (sl (de_var (pv 0))) (sl de_int) (fun _ _ => rfl))) (sl (de_callB (cr_sum rfl) s_sum rfl g_sum b_sum (la_cons (nl (dn_lc (own := [("one", 3), ("other", 4)]) rfl sc_value_of.nd (di_zpL rfl g_zip (la_cons (sl (de_sl (sl (de_var (pv 0))) (do_some de_int) do_none)) (la_cons (sl (de_var (pv 1))) la_nil))) (blkOk_by (own := [("one", 3), ("other", 4)]) (by kernel_rfl)) (fun _ _ _ _ _ => (pg_tup rfl (pgs_cons (pg_name sc_value_of.nd rfl (Or.inl rfl)) (pgs_cons (pg_name sc_value_of.nd rfl (Or.inl rfl)) pgs_nil)))) (tg_tup (tgs_cons (tg_name 3) (tgs_cons (tg_name 4) tgs_nil)) (tfl_cons (tfl_cons tfl_nil))) (fun _ _ _ _ _ => pts_nil) (fun _ _ _ z => yes_t z) (fun _ _ _ _ _ => (de_op o_mul s_mul (sl (de_var (pv 3))) (sl (de_var (pv 4))))))) la_nil))))) (sl (de_var (pv 2))))))⟩
theorem ok_answers_of {P : Program} {w : World} {K : PySem.W.Frag} {mg : Str → Option Value} {base h : Heap} (X : K.In h) (G : h.Ns mainGlobals mg) (c : SaysX fx fa fn K) :
    ∃ fd, FunD K "answers_of" "answers_of" (defArgs s_answers_of) (defBody s_answers_of) (defScope s_answers_of) [] [] (He.fAd K ("answers_of", none)) fd ∧ FnOk P w K mg base (L2.CX P w) 6 (He.fAd K ("answers_of", none)) fd N_answers_of_ps (spM K (cl K) 2 m_answers_of) := by
  obtain ⟨fd, F⟩ := c.d.def_ 40 (d := d_answers_of) rfl
  obtain ⟨fd_kind_of, F_kind_of, O_kind_of⟩ := ok_kind_of (P := P) (w := w) (base := base) X G c
  have gg_kind_of : mg "kind_of" = some (.ref (He.fAd K ("kind_of", none))) := He.glo_ok X G (c.d.fact 58 (f := .glo "kind_of") rfl)
  have B_kind_of : Binds K fd_kind_of N_kind_of_ps [] := F_kind_of.bindsN fun _ _ _ _ _ _ us hl => match us, hl with | [_, _], _ => rfl
  have cls_Grammar : Cls K (He.ga K "Grammar") := He.cls_ok (c.d.fact 40 (f := .cls "Grammar") rfl)
  have noat_Grammar_top : NoAttr K (He.ga K "Grammar") "top" := He.noat_ok (c.d.fact 45 (f := .noat "Grammar" "top") rfl)
  obtain ⟨fd_NotTop___init__, F_NotTop___init__, O_NotTop___init__⟩ := ok_NotTop___init__ (P := P) (w := w) (base := base) X G c
  have B_NotTop___init__ : Binds K fd_NotTop___init__ N_NotTop___init___ps [] := F_NotTop___init__.bindsN fun _ _ _ _ _ _ us hl => match us, hl with | [_, _], _ => rfl
  have oe_NotTop := fx_oex_ok (c.fx 0 (f := fx_oex "NotTop") rfl)
  have gg_NotTop : mg "NotTop" = some (.ref (He.ga K "NotTop")) := He.glo_ok X G (c.d.fact 68 (f := .glo "NotTop") rfl)
  obtain ⟨fd_values_along, F_values_along, O_values_along⟩ := ok_values_along (P := P) (w := w) (base := base) X G c
  have gg_values_along : mg "values_along" = some (.ref (He.fAd K ("values_along", none))) := He.glo_ok X G (c.d.fact 61 (f := .glo "values_along") rfl)
  have B_values_along : Binds K fd_values_along N_values_along_ps [] := F_values_along.bindsN fun _ _ _ _ _ _ us hl => match us, hl with | [_, _, _], _ => rfl
  have noat_Grammar_answers : NoAttr K (He.ga K "Grammar") "answers" := He.noat_ok (c.d.fact 47 (f := .noat "Grammar" "answers") rfl)
  obtain ⟨fd_value_of, F_value_of, O_value_of⟩ := ok_value_of (P := P) (w := w) (base := base) X G c
  have gg_value_of : mg "value_of" = some (.ref (He.fAd K ("value_of", none))) := He.glo_ok X G (c.d.fact 70 (f := .glo "value_of") rfl)
  have B_value_of : Binds K fd_value_of N_value_of_ps [] := F_value_of.bindsN fun _ _ _ _ _ _ us hl => match us, hl with | [_, _, _], _ => rfl
  have noat_Grammar_width : NoAttr K (He.ga K "Grammar") "width" := He.noat_ok (c.d.fact 41 (f := .noat "Grammar" "width") rfl)
  exact ⟨fd, F, fn_ok F sc_answers_of (b := b_answers_of) <| fun cdv A outer s H E hr => by
    have hu := L2.hu_of hr
    exact (ds_cons (ds_set (ps_set sc_answers_of.nd rfl (Or.inl rfl) (d_call O_kind_of (hr.mono (by decide)) rfl gg_kind_of F_kind_of.kp B_kind_of passB (da_cons (de_var (pv 0)) (da_cons (de_var (pv 1)) da_nil)) (lenA_cons (lenA_cons lenA_nil)))) (fun _ _ _ z => z))
  (ds_cons (ds_if (dt_cmp (op_neD hr.units) s_ne (sl (de_var (pv 2))) (sl (de_fld (cl := cl K) (c := 0) (sl (de_var (pv 0))) cls_Grammar noat_Grammar_top rfl)) (nomark _))
  (ds_one (ds_raise1 (cl := cl K) (c := 1) rfl (takes_of rfl rfl rfl rfl) oe_NotTop O_NotTop___init__ (hr.mono (by decide)) B_NotTop___init__ rfl gg_NotTop (da_cons (de_var (pv 2)) da_nil) (lenA_cons lenA_nil)))
  ds_nil)
  (ds_cons (ds_set (ps_set sc_answers_of.nd rfl (Or.inr rfl) (de_ix (o_ix hu) s_ix (sl (d_call O_values_along (hr.mono (by decide)) rfl gg_values_along F_values_along.kp B_values_along passB (da_cons (de_var (pv 0)) (da_cons (de_var (pv 1)) (da_cons (ns dn_dict) da_nil))) (lenA_cons (lenA_cons (lenA_cons lenA_nil))))) (sl (de_un un_neg s_neg (sl de_int))) (fun _ _ => rfl))) (fun _ _ _ z => z))
  (ds_one (ds_retW (dn_lc (own := [("form", 4)]) rfl sc_answers_of.nd (di_seqL (sl (de_fld (cl := cl K) (c := 0) (sl (de_var (pv 0))) cls_Grammar noat_Grammar_answers rfl))) (blkOk_by (own := [("form", 4)]) (by kernel_rfl)) (fun _ _ _ _ _ => (pg_name sc_answers_of.nd rfl (Or.inl rfl))) (tg_name 4) (fun _ _ _ _ _ => pts_nil) (fun _ _ _ z => yes_t z) (fun _ _ _ _ _ => (d_call O_value_of (hr.mono (by decide)) rfl gg_value_of F_value_of.kp B_value_of passL (da_cons (de_var (pv 4)) (da_cons (de_var (pv 3)) (da_cons (de_op op_shl s_shl (sl de_int) (sl (de_fld (cl := cl K) (c := 0) (sl (de_var (pv 0))) cls_Grammar noat_Grammar_width rfl))) da_nil))) (lenA_cons (lenA_cons (lenA_cons lenA_nil)))))))))))⟩
theorem ok__law_told {P : Program} {w : World} {K : PySem.W.Frag} {mg : Str → Option Value} {base h : Heap} (X : K.In h) (G : h.Ns mainGlobals mg) (c : SaysX fx fa fn K) :
    ∃ fd, FunD K "_law_told" "_law_told" (defArgs s__law_told) (defBody s__law_told) (defScope s__law_told) [] [] (He.fAd K ("_law_told", none)) fd ∧ FnOk P w K mg base (L2.CX P w) 7 (He.fAd K ("_law_told", none)) fd N__law_told_ps (spM K (cl K) 2 m__law_told) := by
  obtain ⟨fd, F⟩ := c.d.def_ 41 (d := d__law_told) rfl
  have gg_NotTop : mg "NotTop" = some (.ref (He.ga K "NotTop")) := He.glo_ok X G (c.d.fact 68 (f := .glo "NotTop") rfl)
  obtain ⟨fd_answers_of, F_answers_of, O_answers_of⟩ := ok_answers_of (P := P) (w := w) (base := base) X G c
  have gg_answers_of : mg "answers_of" = some (.ref (He.fAd K ("answers_of", none))) := He.glo_ok X G (c.d.fact 71 (f := .glo "answers_of") rfl)
  have B_answers_of : Binds K fd_answers_of N_answers_of_ps [] := F_answers_of.bindsN fun _ _ _ _ _ _ us hl => match us, hl with | [_, _], _ => rfl
  have oe_NotTop := fx_oex_ok (c.fx 0 (f := fx_oex "NotTop") rfl)
  have no_NotTop_kind := fx_no_ok (c.fx 1 (f := fx_no "NotTop" "kind") rfl)
  have exm_NotTop_NotTop := fx_exm_ok (c.fx 3 (f := fx_exm "NotTop" "NotTop" true) rfl)
  exact ⟨fd, F, fn_ok F sc__law_told (b := b__law_told) <| fun cdv A outer s H E hr => by
    have hu := L2.hu_of hr
    exact (ds_cons (ds_set (ps_set sc__law_told.nd rfl (Or.inl rfl) de_non) (fun _ _ _ z => z))
  (ds_cons (ds_tryA (cl := cl K) (cN := 1) rfl rfl sc__law_told.nd rfl rfl ⟨rfl, by decide, .inl gg_NotTop⟩ (takes_of rfl rfl rfl rfl) (tbl_ok exm_NotTop_NotTop (List.forall_mem_nil _)) (lenA_cons (lenA_cons lenA_nil)) (fun W pn xe tk _ => pss_one (ps_set sc__law_told.nd rfl (Or.inl rfl) (pe_callS O_answers_of (hr.mono (by decide)) rfl gg_answers_of F_answers_of.kp B_answers_of (fun σ => passAt tk σ) (da_cons (de_var (pv 0)) (da_cons (de_var (pv 1)) da_nil))))) (fun a oe cls d pn hz hf => pss_one (ps_set sc__law_told.nd rfl (Or.inl rfl) (pe_xf oe_NotTop.xf no_NotTop_kind hz hf (pv 3)))) hd_asg)
  (ds_one (ds_ret (de_var (pv 2))))))⟩
theorem ok__law_right {P : Program} {w : World} {K : PySem.W.Frag} {mg : Str → Option Value} {base h : Heap} (X : K.In h) (G : h.Ns mainGlobals mg) (c : SaysX fx fa fn K) :
    ∃ fd, FunD K "_law_right" "_law_right" (defArgs s__law_right) (defBody s__law_right) (defScope s__law_right) [] [] (He.fAd K ("_law_right", none)) fd ∧ FnOk P w K mg base (L2.CX P w) 9 (He.fAd K ("_law_right", none)) fd N__law_right_ps (spM K (cl K) 1 m__law_right) := by
  obtain ⟨fd, F⟩ := c.d.def_ 42 (d := d__law_right) rfl
  obtain ⟨fd__law_one, F__law_one, O__law_one⟩ := ok__law_one (P := P) (w := w) (base := base) X G c
  have gg__law_one : mg "_law_one" = some (.ref (He.fAd K ("_law_one", none))) := He.glo_ok X G (c.d.fact 4 (f := .glo "_law_one") rfl)
  have B__law_one : Binds K fd__law_one N__law_one_ps [] := F__law_one.bindsN fun _ _ _ _ _ _ us hl => match us, hl with | [_, _], _ => rfl
  obtain ⟨fd__law_kinds, F__law_kinds, O__law_kinds⟩ := ok__law_kinds (P := P) (w := w) (base := base) X G c
  have gg__law_kinds : mg "_law_kinds" = some (.ref (He.fAd K ("_law_kinds", none))) := He.glo_ok X G (c.d.fact 7 (f := .glo "_law_kinds") rfl)
  have B__law_kinds : Binds K fd__law_kinds N__law_kinds_ps [] := F__law_kinds.bindsN fun _ _ _ _ _ _ us hl => match us, hl with | [_, _, _], _ => rfl
  obtain ⟨fd__law_rules, F__law_rules, O__law_rules⟩ := ok__law_rules (P := P) (w := w) (base := base) X G c
  have gg__law_rules : mg "_law_rules" = some (.ref (He.fAd K ("_law_rules", none))) := He.glo_ok X G (c.d.fact 12 (f := .glo "_law_rules") rfl)
  have B__law_rules : Binds K fd__law_rules N__law_rules_ps [] := F__law_rules.bindsN fun _ _ _ _ _ _ us hl => match us, hl with | [_, _, _, _], _ => rfl
  obtain ⟨fd__law_answers, F__law_answers, O__law_answers⟩ := ok__law_answers (P := P) (w := w) (base := base) X G c
  have gg__law_answers : mg "_law_answers" = some (.ref (He.fAd K ("_law_answers", none))) := He.glo_ok X G (c.d.fact 14 (f := .glo "_law_answers") rfl)
  have B__law_answers : Binds K fd__law_answers N__law_answers_ps [] := F__law_answers.bindsN fun _ _ _ _ _ _ us hl => match us, hl with | [_, _, _, _], _ => rfl
  obtain ⟨fd_Grammar___init__, F_Grammar___init__, O_Grammar___init__⟩ := ok_Grammar___init__ (P := P) (w := w) (base := base) X G c
  have gg_Grammar : mg "Grammar" = some (.ref (He.ga K "Grammar")) := He.glo_ok X G (c.d.fact 49 (f := .glo "Grammar") rfl)
  have mk_Grammar : Mk K (He.ga K "Grammar") (He.fAd K ("Grammar", some "__init__")) := He.mkr_ok (c.d.fact 48 (f := .mkr "Grammar") rfl)
  have B_Grammar___init__ : Binds K fd_Grammar___init__ N_Grammar___init___ps [] := F_Grammar___init__.bindsN fun _ _ _ _ _ _ us hl => match us, hl with | [_, _, _, _, _, _], _ => rfl
  obtain ⟨fd__law_grown, F__law_grown, O__law_grown⟩ := ok__law_grown (P := P) (w := w) (base := base) X G c
  have gg__law_grown : mg "_law_grown" = some (.ref (He.fAd K ("_law_grown", none))) := He.glo_ok X G (c.d.fact 50 (f := .glo "_law_grown") rfl)
  have B__law_grown : Binds K fd__law_grown N__law_grown_ps [] := F__law_grown.bindsN fun _ _ _ _ _ _ us hl => match us, hl with | [_, _, _], _ => rfl
  obtain ⟨fd__law_along, F__law_along, O__law_along⟩ := ok__law_along (P := P) (w := w) (base := base) X G c
  have gg__law_along : mg "_law_along" = some (.ref (He.fAd K ("_law_along", none))) := He.glo_ok X G (c.d.fact 52 (f := .glo "_law_along") rfl)
  have B__law_along : Binds K fd__law_along N__law_along_ps [] := F__law_along.bindsN fun _ _ _ _ _ _ us hl => match us, hl with | [_, _, _], _ => rfl
  have g_range : mg "range" = none := He.free_ok X G (c.d.fact 5 (f := .free "range") rfl)
  have g_len : mg "len" = none := He.free_ok X G (c.d.fact 3 (f := .free "len") rfl)
  obtain ⟨fd_kind_of, F_kind_of, O_kind_of⟩ := ok_kind_of (P := P) (w := w) (base := base) X G c
  have gg_kind_of : mg "kind_of" = some (.ref (He.fAd K ("kind_of", none))) := He.glo_ok X G (c.d.fact 58 (f := .glo "kind_of") rfl)
  have B_kind_of : Binds K fd_kind_of N_kind_of_ps [] := F_kind_of.bindsN fun _ _ _ _ _ _ us hl => match us, hl with | [_, _], _ => rfl
  obtain ⟨fd_value, F_value, O_value⟩ := ok_value (P := P) (w := w) (base := base) X G c
  have gg_value : mg "value" = some (.ref (He.fAd K ("value", none))) := He.glo_ok X G (c.d.fact 62 (f := .glo "value") rfl)
  have B_value : Binds K fd_value N_value_ps [] := F_value.bindsN fun _ _ _ _ _ _ us hl => match us, hl with | [_, _], _ => rfl
  obtain ⟨fd_count_nodes, F_count_nodes, O_count_nodes⟩ := ok_count_nodes (P := P) (w := w) (base := base) X G c
  have gg_count_nodes : mg "count_nodes" = some (.ref (He.fAd K ("count_nodes", none))) := He.glo_ok X G (c.d.fact 65 (f := .glo "count_nodes") rfl)
  have B_count_nodes : Binds K fd_count_nodes N_count_nodes_ps [] := F_count_nodes.bindsN fun _ _ _ _ _ _ us hl => match us, hl with | [_, _], _ => rfl
  have g_tuple : mg "tuple" = none := He.free_ok X G (c.d.fact 6 (f := .free "tuple") rfl)
  obtain ⟨fd__law_nodes, F__law_nodes, O__law_nodes⟩ := ok__law_nodes (P := P) (w := w) (base := base) X G c
  have gg__law_nodes : mg "_law_nodes" = some (.ref (He.fAd K ("_law_nodes", none))) := He.glo_ok X G (c.d.fact 66 (f := .glo "_law_nodes") rfl)
  have B__law_nodes : Binds K fd__law_nodes N__law_nodes_ps [] := F__law_nodes.bindsN fun _ _ _ _ _ _ us hl => match us, hl with | [_], _ => rfl
  obtain ⟨fd__law_value, F__law_value, O__law_value⟩ := ok__law_value (P := P) (w := w) (base := base) X G c
  have gg__law_value : mg "_law_value" = some (.ref (He.fAd K ("_law_value", none))) := He.glo_ok X G (c.d.fact 67 (f := .glo "_law_value") rfl)
  have B__law_value : Binds K fd__law_value N__law_value_ps [] := F__law_value.bindsN fun _ _ _ _ _ _ us hl => match us, hl with | [_, _, _], _ => rfl
  obtain ⟨fd__law_told, F__law_told, O__law_told⟩ := ok__law_told (P := P) (w := w) (base := base) X G c
  have gg__law_told : mg "_law_told" = some (.ref (He.fAd K ("_law_told", none))) := He.glo_ok X G (c.d.fact 72 (f := .glo "_law_told") rfl)
  have B__law_told : Binds K fd__law_told N__law_told_ps [] := F__law_told.bindsN fun _ _ _ _ _ _ us hl => match us, hl with | [_, _], _ => rfl
  have g_isinstance : mg "isinstance" = none := He.free_ok X G (c.d.fact 15 (f := .free "isinstance") rfl)
  have g_list : mg "list" = none := He.free_ok X G (c.d.fact 21 (f := .free "list") rfl)
  obtain ⟨fd_answers_of, F_answers_of, O_answers_of⟩ := ok_answers_of (P := P) (w := w) (base := base) X G c
  have gg_answers_of : mg "answers_of" = some (.ref (He.fAd K ("answers_of", none))) := He.glo_ok X G (c.d.fact 71 (f := .glo "answers_of") rfl)
  have B_answers_of : Binds K fd_answers_of N_answers_of_ps [] := F_answers_of.bindsN fun _ _ _ _ _ _ us hl => match us, hl with | [_, _], _ => rfl
  exact ⟨fd, F, fn_ok F sc__law_right (b := b__law_right) <| fun cdv A outer s H E hr => by
    have hu := L2.hu_of hr
    exact (ds_cons (ds_set (ps_set sc__law_right.nd rfl (Or.inr rfl) (d_call O__law_one (hr.mono (by decide)) rfl gg__law_one F__law_one.kp B__law_one passB (da_cons (de_var (pv 0)) (da_cons (ns (dn_lst (da_cons de_int (da_cons de_int (da_cons de_int (da_cons de_int (da_cons de_int da_nil))))) (lenA_cons (lenA_cons (lenA_cons (lenA_cons (lenA_cons lenA_nil))))))) da_nil)) (lenA_cons (lenA_cons lenA_nil)))) (fun _ _ _ z => z))
  (ds_cons (ds_set (ps_set sc__law_right.nd rfl (Or.inl rfl) (d_call O__law_kinds (hr.mono (by decide)) rfl gg__law_kinds F__law_kinds.kp B__law_kinds passB (da_cons (de_var (pv 0)) (da_cons de_int (da_cons de_int da_nil))) (lenA_cons (lenA_cons (lenA_cons lenA_nil))))) (fun _ _ _ z => z))
  (ds_cons (ds_set (ps_set sc__law_right.nd rfl (Or.inl rfl) (d_call O__law_rules (hr.mono (by decide)) rfl gg__law_rules F__law_rules.kp B__law_rules passB (da_cons (de_var (pv 0)) (da_cons (de_var (pv 1)) (da_cons (de_var (pv 2)) (da_cons de_int da_nil)))) (lenA_cons (lenA_cons (lenA_cons (lenA_cons lenA_nil)))))) (fun _ _ _ z => z))
  (ds_cons (ds_set (ps_set sc__law_right.nd rfl (Or.inl rfl) (de_ix (o_ix hu) s_ix (sl (d_call O__law_one (hr.mono (by decide)) rfl gg__law_one F__law_one.kp B__law_one passB (da_cons (de_var (pv 0)) (da_cons (de_var (pv 2)) da_nil)) (lenA_cons (lenA_cons lenA_nil)))) (sl de_int) (fun _ _ => rfl))) (fun _ _ _ z => z))
  (ds_cons (ds_set (ps_set sc__law_right.nd rfl (Or.inl rfl) (d_call O__law_answers (hr.mono (by decide)) rfl gg__law_answers F__law_answers.kp B__law_answers passB (da_cons (de_var (pv 0)) (da_cons (de_var (pv 1)) (da_cons (de_var (pv 2)) (da_cons (de_var (pv 4)) da_nil)))) (lenA_cons (lenA_cons (lenA_cons (lenA_cons lenA_nil)))))) (fun _ _ _ z => z))
  (ds_cons (ds_set (ps_set sc__law_right.nd rfl (Or.inl rfl) (ns (d_make (cl := cl K) (c := 0) mk_Grammar O_Grammar___init__ (hr.mono (by decide)) rfl gg_Grammar B_Grammar___init__ passB (da_cons (de_var (pv 1)) (da_cons (de_var (pv 2)) (da_cons (de_var (pv 3)) (da_cons (de_var (pv 4)) (da_cons (de_var (pv 5)) da_nil))))) (lenA_cons (lenA_cons (lenA_cons (lenA_cons (lenA_cons lenA_nil))))) blind_Grammar___init__))) (fun _ _ _ z => z))
  (ds_cons (ds_unp (ps_asg (d_call O__law_grown (hr.mono (by decide)) rfl gg__law_grown F__law_grown.kp B__law_grown passB (da_cons (de_var (pv 0)) (da_cons (de_var (pv 3)) (da_cons de_int da_nil))) (lenA_cons (lenA_cons (lenA_cons lenA_nil)))) (pg_tup rfl (pgs_cons (pg_name sc__law_right.nd rfl (Or.inl rfl)) (pgs_cons (pg_name sc__law_right.nd rfl (Or.inl rfl)) pgs_nil)))) rfl (fun _ _ _ z => z))
  (ds_cons (ds_set (ps_set sc__law_right.nd rfl (Or.inr rfl) (d_call O__law_along (hr.mono (by decide)) rfl gg__law_along F__law_along.kp B__law_along passB (da_cons (de_var (pv 1)) (da_cons (de_var (pv 3)) (da_cons (de_var (pv 7)) da_nil))) (lenA_cons (lenA_cons (lenA_cons lenA_nil))))) (fun _ _ _ z => z))
  (ds_cons (ds_for passO rfl (di_rng2 rfl g_range (da_cons de_int (da_cons (de_op o_add s_add (sl (de_callB o_len s_len rfl g_len b_len (la_cons (sl (de_var (pv 7))) la_nil))) (sl de_int)) da_nil)) (lenA_cons (lenA_cons lenA_nil))) (pg_name sc__law_right.nd rfl (Or.inr rfl)) (tg_name 10)
  (ds_cons (ds_set (ps_set sc__law_right.nd rfl (Or.inl rfl) (de_sl (sl (de_var (pv 7))) do_none (do_some (de_var (pv 10))))) (fun _ _ _ z => z))
  (ds_cons (ds_if (PW.pt (dw_or (dt_cmp (op_neD hr.units) s_ne (sl (d_call O_value (hr.mono (by decide)) rfl gg_value F_value.kp B_value passB (da_cons (de_var (pv 6)) (da_cons (de_var (pv 11)) da_nil)) (lenA_cons (lenA_cons lenA_nil)))) (sl (de_ix (o_ix hu) s_ix (sl (de_var (pv 9))) (sl (de_op op_sub s_sub (sl (de_var (pv 10))) (sl de_int))) (fun _ _ => rfl))) (nomark _)) (dw_or1 (dt_cmp (op_neD hr.units) s_ne (sl (d_call O_kind_of (hr.mono (by decide)) rfl gg_kind_of F_kind_of.kp B_kind_of passB (da_cons (de_var (pv 6)) (da_cons (de_var (pv 11)) da_nil)) (lenA_cons (lenA_cons lenA_nil)))) (sl (de_ix (o_ix hu) s_ix (sl (de_var (pv 8))) (sl (de_op op_sub s_sub (sl (de_var (pv 10))) (sl de_int))) (fun _ _ => rfl))) (nomark _)))))
  (ds_one (ds_ret de_bl))
  ds_nil)
  (ds_cons (ds_if (dt_cmp (op_neD hr.units) s_ne (sl (d_call O_count_nodes (hr.mono (by decide)) rfl gg_count_nodes F_count_nodes.kp B_count_nodes passB (da_cons (de_var (pv 6)) (da_cons (de_callTy call_tuple_of s_tup rfl g_tuple b_tuple (la_cons (sl (de_var (pv 11))) la_nil)) da_nil)) (lenA_cons (lenA_cons lenA_nil)))) (sl (d_call O__law_nodes (hr.mono (by decide)) rfl gg__law_nodes F__law_nodes.kp B__law_nodes passB (da_cons (de_var (pv 11)) da_nil) (lenA_cons lenA_nil))) (nomark _))
  (ds_one (ds_ret de_bl))
  ds_nil)
  (ds_cons (ds_set (ps_set sc__law_right.nd rfl (Or.inl rfl) (de_ix (o_ix hu) s_ix (sl (de_var (pv 8))) (sl (de_op op_sub s_sub (sl (de_var (pv 10))) (sl de_int))) (fun _ _ => rfl))) (fun _ _ _ z => z))
  (ds_cons (ds_if (dt_cmp (op_eqD hr.units) s_eq (sl (de_var (pv 12))) (sl (de_var (pv 4))) (nomark _))
  (ds_one (ds_set (lc_set (own := [("_law_form_here", 14)]) rfl sc__law_right.nd rfl rfl rfl (di_seqL (sl (de_var (pv 5)))) (blkOk_by (own := [("_law_form_here", 14)]) (by kernel_rfl)) (fun _ _ _ _ _ => (pg_name sc__law_right.nd rfl (Or.inl rfl))) (tg_name 14) (fun _ _ _ _ _ => pts_nil) (fun _ _ _ z => yes_t z) (fun _ _ _ _ _ => (d_call O__law_value (hr.mono (by decide)) rfl gg__law_value F__law_value.kp B__law_value passL (da_cons (de_var (pv 1)) (da_cons (de_var (pv 14)) (da_cons (de_ix (o_ix hu) s_ix (sl (de_var (pv 9))) (sl (de_op op_sub s_sub (sl (de_var (pv 10))) (sl de_int))) (fun _ _ => rfl)) da_nil))) (lenA_cons (lenA_cons (lenA_cons lenA_nil)))))) (fun _ _ _ z => t_dn z)))
  ds_nil)
  (ds_cons (ds_set (ps_set sc__law_right.nd rfl (Or.inl rfl) (d_call O__law_told (hr.mono (by decide)) rfl gg__law_told F__law_told.kp B__law_told passB (da_cons (de_var (pv 6)) (da_cons (de_var (pv 11)) da_nil)) (lenA_cons (lenA_cons lenA_nil)))) (fun _ _ _ z => z))
  (ds_cons (ds_if (dt_cmp (op_neD hr.units) s_ne (sl (de_var (pv 13))) (sl (de_var (pv 12))) (nomark _))
  (ds_one (ds_ret de_bl))
  ds_nil)
  (ds_one (ds_if (dt_val (de_isi1 (t := .lst) (sl (de_var (pv 13))) (pe_bltn rfl g_list b_list rfl) rfl g_isinstance b_isinstance))
  (ds_cons (ds_appR (ps_expr (pe_bm PySem.F.plainAttrs_list PySem.F.slot_list_append PySem.F.type_list_append mt_append (pv 13) (pa_cons de_non pa_nil))) (fun _ _ _ z => z))
  (ds_one (ds_if (dt_cmp (op_neD hr.units) s_ne (sl (d_call O_answers_of (hr.mono (by decide)) rfl gg_answers_of F_answers_of.kp B_answers_of passB (da_cons (de_var (pv 6)) (da_cons (de_callTy call_tuple_of s_tup rfl g_tuple b_tuple (la_cons (sl (de_var (pv 11))) la_nil)) da_nil)) (lenA_cons (lenA_cons lenA_nil)))) (sl (de_var (pv 12))) (nomark _))
  (ds_one (ds_ret de_bl))
  ds_nil)))
  ds_nil))))))))))
  (ds_one (ds_ret de_bl)))))))))))⟩
theorem ok_law {P : Program} {w : World} {K : PySem.W.Frag} {mg : Str → Option Value} {base h : Heap} (X : K.In h) (G : h.Ns mainGlobals mg) (c : SaysX fx fa fn K) :
    ∃ fd, FunD K "law" "law" (defArgs s_law) (defBody s_law) (defScope s_law) [] [] (He.fAd K ("law", none)) fd ∧ FnOk P w K mg base (L2.CX P w) 10 (He.fAd K ("law", none)) fd N_law_ps (spM K (cl K) 1 m_law) := by
  obtain ⟨fd, F⟩ := c.d.def_ 43 (d := d_law) rfl
  have g_enumerate : mg "enumerate" = none := He.free_ok X G (c.d.fact 0 (f := .free "enumerate") rfl)
  have g_int : mg "int" = none := He.free_ok X G (c.d.fact 1 (f := .free "int") rfl)
  obtain ⟨fd__law_right, F__law_right, O__law_right⟩ := ok__law_right (P := P) (w := w) (base := base) X G c
  have gg__law_right : mg "_law_right" = some (.ref (He.fAd K ("_law_right", none))) := He.glo_ok X G (c.d.fact 73 (f := .glo "_law_right") rfl)
  have B__law_right : Binds K fd__law_right N__law_right_ps [] := F__law_right.bindsN fun _ _ _ _ _ _ us hl => match us, hl with | [_], _ => rfl
  exact ⟨fd, F, fn_ok F sc_law (b := b_law) <| fun cdv A outer s H E hr => by
    have hu := L2.hu_of hr
    exact (ds_cons (ds_for passO rfl (di_en rfl g_enumerate (da_cons (de_sl (nl (de_opN op_catS s_catS (sl (de_var (pv 0))) (nl (dn_lst (da_cons de_int da_nil) (lenA_cons lenA_nil))))) do_none (do_some de_int)) da_nil)) (pg_tup rfl (pgs_cons (pg_name sc_law.nd rfl (Or.inl rfl)) (pgs_cons (pg_name sc_law.nd rfl (Or.inl rfl)) pgs_nil))) (tg_tup (tgs_cons (tg_name 1) (tgs_cons (tg_name 2) tgs_nil)) (tfl_cons (tfl_cons tfl_nil)))
  (ds_cons (ds_new (ps_set sc_law.nd rfl (Or.inl rfl) (dn_lst (da_cons (de_op o_mul s_mul (sl (de_var (pv 2))) (sl (de_callTy call_int1 s_int rfl g_int b_int (la_cons (sl (de_cmp op_ge (s_cmp _) (sl (de_var (pv 2))) (sl (de_op op_pow s_pow (sl de_int) (sl de_int))) (nomark _))) la_nil)))) (da_cons (de_op o_add s_add (sl (de_op op_mod s_mod (sl (de_callTy call_int1 s_int rfl g_int b_int (la_cons (sl (de_var (pv 2))) la_nil))) (sl de_int))) (sl (de_op o_mul s_mul (sl de_int) (sl (de_var (pv 1)))))) (da_cons de_int da_nil))) (lenA_cons (lenA_cons (lenA_cons lenA_nil))))) (fun _ _ _ z => z))
  (ds_one (ds_if (dt_not (dt_val (d_call O__law_right (hr.mono (by decide)) rfl gg__law_right F__law_right.kp B__law_right passB (da_cons (de_var (pv 3)) da_nil) (lenA_cons lenA_nil))))
  (ds_one (ds_ret de_bl))
  ds_nil))))
  (ds_one (ds_ret de_bl)))⟩
end G06

set_option Elab.async false
set_option linter.all false
set_option maxRecDepth 100000
set_option autoImplicit false
set_option maxHeartbeats 0
namespace G06
open PySem PySem.Spec PyProof.Rows L2 Dm
abbrev R : PySem.W.OpenRow := PySem.W.OpenLaw.row PySem.Challenge.rw_leastattr_k06_whole_trees_and_their_valu
abbrev hk : PySem.W.Hook := hookC 6 fx fa fn
def ob (s : PySem.W.SharedT) : AlX := obsXC 6 fx fa fn (HandSHeadRun.getT s)
theorem ob_eq (s : PySem.W.SharedT) : ob s = hk.obs s.abs := obsXC_eq (HandSHeadRun.getT_eq s)
def loose : List Str := (["_wall", "AttrError", "NoGrammar", "NoTree", "NotTop", "MAX_WIDTH", "MAX_KINDS", "MAX_ATTRIBUTES", "MAX_RULES", "MAX_CHILDREN", "MAX_NUMBERS", "MAX_TERMS", "MAX_ANSWERS", "MAX_NAME", "LETTERS", "is_int", "is_from", "is_name", "are_names", "is_form", "is_term", "are_sums", "is_rule", "check_kinds", "check_grammar", "reduced", "reduced_sums", "Grammar", "sum_of", "made"] : List Str) ++ (["value_of", "MAX_STEPS", "are_steps", "is_step", "kinds_of", "kind_of", "values_along", "value", "answers_of", "counted", "count_nodes", "_law_draw", "_law_one", "_law_number", "_law_sum", "_law_rule", "_law_kinds", "_law_rules", "_law_form", "_law_answers", "_law_made", "_law_along", "_law_grown", "_law_told", "_law_value", "_law_nodes", "_law_right"] : List Str)
theorem run (w : World) : HandSHeadRun.RunEq R (PySem.W.view R.prog [61]) hk ob 4000 loose w := by
  intro os
  kernel_rfl
theorem facts {P : Program} {w : World} {K : PySem.W.Frag} {h : Heap} {mg : Str → Option Value} {f : Addr} (X : K.In h) (G : h.Ns mainGlobals mg) (hfa : mg ("law" : Str) = some (.ref f)) (c : SaysX fx fa fn K) :
    ∃ fd : FuncData, (∀ (s : Shared) (v : Value), BindsTo s fd ⟨[v], []⟩ [("_law_script", v)]) ∧ ∀ base : Heap, K.In base → base.Ns mainGlobals mg → FnOk P w K mg base (L2.CX P w) 10 f fd ["_law_script"] (spM K (cl K) 1 m_law) := by
  obtain ⟨fd, F⟩ := c.d.def_ 43 (d := d_law) rfl
  have e := hfa.symm.trans (He.glo_ok X G (c.d.fact 74 (f := .glo "law") rfl))
  cases e
  have b := FunD.bindsA (ps := ["_law_script"]) F fun _ _ _ _ _ _ us hl => match us, hl with | [_], _ => rfl
  refine ⟨fd, fun s v => b s [v] rfl, fun base _ _ => ?_⟩
  obtain ⟨fd2, F2, O⟩ := ok_law (P := P) (w := w) (base := base) X G c
  have e2 : fd2 = fd := by
    obtain ⟨_, _, _, _, _, _, _, _, _, _, q1, k1, _⟩ := F.ex
    obtain ⟨_, _, _, _, _, _, _, _, _, _, q2, k2, _⟩ := F2.ex
    have k3 := k1.symm.trans k2
    simp only [Option.some.injEq, Obj.mk.injEq, Data.func.injEq] at k3
    exact k3.2.2.1.symm
  rw [← e2]
  exact O
end G06
open PySem PySem.W PySem.Calls PyProof.Rows in
theorem G06.holds (hlaw : ∀ ns : List Int, ns.length ≤ 63 → ∃ S, G06.m_law [.scr ns] [] = .ok (.bl true) S) : PySem.Challenge.rw_leastattr_k06_whole_trees_and_their_valu.Holds := by
  w_on; o_law
  refine HandSHeadRun.head_any (r := OpenLaw.row PySem.Challenge.rw_leastattr_k06_whole_trees_and_their_valu) (q := view (OpenLaw.row PySem.Challenge.rw_leastattr_k06_whole_trees_and_their_valu).prog [61]) (H := G06.hk) (ob := G06.ob) (M := 4000) (loose := G06.loose) (d := HandSHeadRun.topDef (OpenLaw.row PySem.Challenge.rw_leastattr_k06_whole_trees_and_their_valu).prog 61) (kwd := []) G06.ob_eq
    (by kernel_rfl) (fun s => by kernel_rfl) G06.run (by kernel_rfl) (by kernel_rfl) (by kernel_rfl) (by rfl) (by first | assumption | decide +kernel) (by decide +kernel) ⟨rfl, rfl, rfl, rfl, rfl, by decide +kernel⟩ ?hw ?hc
  case hw => w_witness2
  case hc =>
    refine Dm.walk_ofW (l := PySem.Challenge.rw_leastattr_k06_whole_trees_and_their_valu) (n := 63) (k := 10) (x := "_law_script") (CX := fun w => L2.CX (PySem.Challenge.rw_leastattr_k06_whole_trees_and_their_valu).prog w) rfl (by decide) (by kernel_rfl) ⟨rfl, by decide, by decide⟩ ?F (fun _ _ _ _ _ z => Dm.noCX z)
    intro w mg fa h Y G hmg0
    obtain ⟨K, KX, c⟩ := Y
    have hmg : mg ("law" : PySem.Str) = some (.ref fa) := by
      have e : (HandSHeadRun.topDef (OpenLaw.row PySem.Challenge.rw_leastattr_k06_whole_trees_and_their_valu).prog 61).name = ("law" : PySem.Str) := by kernel_rfl
      rw [← e]
      exact hmg0
    obtain ⟨fd, hb, hF⟩ := G06.facts (P := (PySem.Challenge.rw_leastattr_k06_whole_trees_and_their_valu).prog) (w := w) KX G hmg c
    exact ⟨K, fd, Dm.spM K (G06.cl K) 1 G06.m_law, KX, hb, fun H a ns hl hS => Dm.sp_law hlaw H a ns hl hS, hF⟩


set_option Elab.async false
set_option linter.all false
set_option maxRecDepth 100000
set_option autoImplicit false
set_option maxHeartbeats 1000000
namespace G06
open PySem PySem.Spec L2 Dm
local macro_rules | `(tactic| walk_at "wp") => `(tactic| (repeat (first | ((with_reducible apply w_var); exact rfl) | ((with_reducible apply w_varO); exact rfl) | ((with_reducible apply w_varL); exact rfl) | with_reducible refine w_c ?_ | with_reducible refine w_bin ?_ | with_reducible refine w_cB ?_ | with_reducible refine w_tv ?_ | with_reducible refine w_cons ?_ | with_reducible refine w_nil ?_ | with_reducible refine w_tup ?_ | with_reducible refine w_lst ?_ | with_reducible refine w_call ?_ | with_reducible refine w_orT ?_ | with_reducible refine w_sl ?_ | with_reducible refine w_oN ?_ | with_reducible refine w_oS ?_ | with_reducible refine w_seqI ?_ | with_reducible refine w_rng2 ?_ | with_reducible refine w_rng1 ?_ | ((with_reducible apply w_comp); exact rfl) | with_reducible refine w_assoc ?_ | with_reducible refine w_qnil ?_ | with_reducible refine w_qset ?_ | with_reducible refine w_qown ?_ | with_reducible refine w_qret ?_ | with_reducible refine w_qif ?_ | ((with_reducible apply w_qapp); exact rfl) | with_reducible refine w_qsetR ?_ | with_reducible refine w_qpar ?_ | with_reducible refine w_qparVO ?_ | with_reducible refine w_qfor ?_ | with_reducible refine w_for ?_ | with_reducible refine w_nilS ?_ | with_reducible refine w_ret ?_ | ((with_reducible apply w_retO); exact rfl) | with_reducible refine w_ifS ?_ | with_reducible refine w_set ?_ | ((with_reducible apply w_app); exact rfl) | with_reducible refine w_setR ?_ | with_reducible refine ⟨_, f_add, ?_⟩ | with_reducible refine ⟨_, f_sub, ?_⟩ | with_reducible refine ⟨_, f_cmp, ?_⟩ | with_reducible refine ⟨_, f_eqI, ?_⟩ | with_reducible refine ⟨_, f_int, ?_⟩ | with_reducible refine ⟨_, f_intB, ?_⟩ | with_reducible refine ⟨_, f_lenL, ?_⟩ | with_reducible refine ⟨_, f_lenT, ?_⟩ | with_reducible refine ⟨_, f_tupL, ?_⟩ | with_reducible refine ⟨_, f_tupT, ?_⟩ | with_reducible refine ⟨_, f_lenQ, ?_⟩ | with_reducible refine ⟨_, seqQ, ?_⟩ | with_reducible refine ⟨_, tupQ, ?_⟩ | with_reducible refine ⟨_, _, rfl, seqQ, ?_⟩ | with_reducible refine ⟨_, _, rfl, rfl, ?_⟩ | with_reducible refine ⟨_, _, _, rfl, rfl, ?_⟩ | with_reducible refine ⟨_, _, _, _, rfl, rfl, rfl, ?_⟩ | with_reducible refine ⟨_, f_slL, ?_⟩ | with_reducible refine ⟨_, f_slT, ?_⟩ | ((with_reducible refine ⟨_, f_mod ?_, ?_⟩); (first | assumption | omega | decide)) | ((with_reducible refine ⟨_, f_fdiv ?_ ?_, ?_⟩); (first | assumption | omega | decide); (first | assumption | omega | decide)) | ((with_reducible refine ⟨_, f_mul ?_, ?_⟩); omega) | ((with_reducible refine ⟨_, f_pow ?_, ?_⟩); (first | omega | decide)) | ((with_reducible refine ⟨_, f_shl ?_, ?_⟩); (first | omega | decide)) | with_reducible refine ⟨_, rfl, ?_⟩ | ((with_reducible refine ⟨_, f_lenS ?_, ?_⟩); omega) | with_reducible refine ret_ok.mpr ?_ | refine w_yes rfl ?_ | refine w_no rfl ?_ | ((with_reducible refine w_yes (decide_eq_true ?_) ?_); omega) | ((with_reducible refine w_no (decide_eq_false ?_) ?_); omega) | ((with_reducible refine w_nyes ?_ ?_); omega) | ((with_reducible refine w_nno ?_ ?_); omega))))
/-- the store: its objects hold no lists; at n a well -/
structure Wl (S : Sto) (n : Nat) : Prop where
  st : stOk S = true
  get : ∃ a b c, S[n]? = some (.lst [.int a, .int b, .int c])
theorem Wl.lt {S : Sto} {n : Nat} (h : Wl S n) : n < S.length := by
  obtain ⟨a, b, c, e⟩ := h.get
  exact (List.getElem?_eq_some_iff.mp e).1
theorem st_set {S : Sto} {n : Nat} {x : Vl} (h : stOk S = true) (hx : nlO x = true) : stOk (S.set n x) = true := by
  refine List.all_eq_true.mpr fun y hy => ?_
  rcases List.mem_or_eq_of_mem_set hy with hy | rfl
  · exact List.all_eq_true.mp h y hy
  · exact hx
theorem st_push {S : Sto} {x : Vl} (h : stOk S = true) (hx : nlO x = true) : stOk (S ++ [x]) = true := by
  unfold stOk at h ⊢
  rw [List.all_append, h]
  simp [hx]
theorem Wl.set {S : Sto} {n : Nat} (h : Wl S n) (a b c : Int) : Wl (S.set n (.lst [.int a, .int b, .int c])) n := ⟨st_set h.st rfl, a, b, c, List.getElem?_set_self h.lt⟩
theorem Wl.push {S : Sto} {n : Nat} {x : Vl} (h : Wl S n) (hx : nlO x = true) : Wl (S ++ [x]) n := ⟨st_push h.st hx, by
  obtain ⟨a, b, c, e⟩ := h.get
  exact ⟨a, b, c, by rw [List.getElem?_append_left h.lt]; exact e⟩⟩
theorem Wl.other {S : Sto} {n m : Nat} {x : Vl} (h : Wl S n) (hx : nlO x = true) (hm : m ≠ n) : Wl (S.set m x) n := ⟨st_set h.st hx, by
  obtain ⟨a, b, c, e⟩ := h.get
  exact ⟨a, b, c, by rw [List.getElem?_set_ne hm]; exact e⟩⟩
theorem get_set {S : Sto} {n : Nat} {x : Vl} (h : n < S.length) : (S.set n x)[n]? = some x := List.getElem?_set_self h
theorem draw_ok {S : Sto} {n : Nat} {many : Int} (h : Wl S n) (hm : 0 < many) (hm2 : many < 2 ^ 64) : Ret (m__law_draw [.ref n, .int many] S) fun v S1 => (∃ i : Int, v = .int i ∧ 0 ≤ i ∧ i < many) ∧ Wl S1 n := by
  obtain ⟨a, b, c, e⟩ := h.get
  unfold m__law_draw b__law_draw
  refine w_run ?_
  walk_at "wp"
  refine ⟨_, f_ixR e rfl, ?_⟩
  walk_at "wp"
  refine ⟨fun hk => ?_, fun hk => ?_⟩
  · walk_at "wp"
    refine ⟨_, f_ixR e rfl, ?_⟩
    walk_at "wp"
    refine ⟨_, f_ixR e rfl, ?_⟩
    walk_at "wp"
    refine ⟨_, _, _, _, rfl, rfl, e, rfl, ?_⟩
    walk_at "wp"
    exact ⟨⟨_, rfl, Int.emod_nonneg _ (by omega), Int.emod_lt_of_pos _ hm⟩, h.set _ _ _⟩
  · walk_at "wp"
    refine ⟨_, f_ixR e rfl, ?_⟩
    walk_at "wp"
    refine ⟨_, _, _, _, rfl, rfl, e, rfl, ?_⟩
    have e2 : (S.set n (.lst ([Vl.int a, .int b, .int c].set 2 (.int (c + 1)))))[n]? = some (.lst [.int a, .int b, .int (c + 1)]) := get_set h.lt
    walk_at "wp"
    refine ⟨_, f_ixR e2 rfl, ?_⟩
    walk_at "wp"
    refine ⟨_, f_ixR e2 rfl, ?_⟩
    walk_at "wp"
    exact ⟨⟨_, rfl, Int.emod_nonneg _ (by omega), Int.emod_lt_of_pos _ hm⟩, h.set _ _ _⟩
theorem one_ok {S : Sto} {n : Nat} {xs : List Vl} (h : Wl S n) (h0 : xs ≠ []) (h1 : xs.length < 1000) : Ret (m__law_one [.ref n, .lst xs] S) fun v S1 => v ∈ xs ∧ Wl S1 n := by
  have hl : 0 < xs.length := List.length_pos_iff.mpr h0
  unfold m__law_one b__law_one
  refine w_run ?_
  walk_at "wp"
  refine (draw_ok h (by omega) (by omega)).mono fun v S1 ⟨⟨i, hv, h0, h1⟩, hW⟩ => ?_
  subst hv
  obtain ⟨v, hv, hm⟩ := atI_mem h0 h1
  exact ⟨v, f_ixL hv, hm, hW⟩
theorem pow_le {w : Int} (h : 1 ≤ w ∧ w ≤ 64) : (2 : Int) ≤ 2 ^ w.toNat ∧ (2 : Int) ^ w.toNat ≤ 2 ^ 64 := by
  have h1 : 1 ≤ w.toNat := by omega
  have h2 : w.toNat ≤ 64 := by omega
  generalize w.toNat = k at *
  have a : 2 ^ 1 ≤ 2 ^ k := Nat.pow_le_pow_right (by decide) h1
  have b : 2 ^ k ≤ 2 ^ 64 := Nat.pow_le_pow_right (by decide) h2
  constructor
  · exact_mod_cast a
  · exact_mod_cast b
def Rng (w : Int) (v : Vl) : Prop := ∃ i : Int, v = .int i ∧ 0 ≤ i ∧ i < 2 ^ w.toNat
theorem number_ok {S : Sto} {n : Nat} {w : Int} (h : Wl S n) (hw : 1 ≤ w ∧ w ≤ 64) : Ret (m__law_number [.ref n, .int w] S) fun v S1 => Rng w v ∧ Wl S1 n := by
  have hp := pow_le hw
  unfold m__law_number b__law_number
  refine w_run ?_
  walk_at "wp"
  have e31 : (2 : Int) ^ (31 : Int).toNat = 2147483648 := by decide
  refine (draw_ok h (by decide) (by decide)).mono fun v S1 ⟨⟨i, hv, h0, h1⟩, hW⟩ => ?_
  subst hv
  rw [e31] at h1
  walk_at "wp"
  refine (draw_ok hW (by decide) (by decide)).mono fun v S2 ⟨⟨j, hv, h2, h3⟩, hW⟩ => ?_
  subst hv
  walk_at "wp"
  refine (draw_ok hW (by decide) (by decide)).mono fun v S2 ⟨⟨k, hv, h4, h5⟩, hW⟩ => ?_
  subst hv
  obtain ⟨v, hv, hm⟩ := atI_mem (xs := [Vl.int 0, Vl.int 1, Vl.int 1, Vl.int 2, Vl.int 3, Vl.int (1 * 2 ^ w.toNat - 1), Vl.int (1 * 2 ^ w.toNat / 2), Vl.int (i * 2 ^ (33 : Int).toNat + j)]) h4 h5
  refine ⟨v, f_ixL hv, ?_⟩
  have hi : ∃ z : Int, v = .int z := by
    simp at hm
    rcases hm with rfl | rfl | rfl | rfl | rfl | rfl | rfl <;> exact ⟨_, rfl⟩
  obtain ⟨z, rfl⟩ := hi
  walk_at "wp"
  exact ⟨⟨_, rfl, Int.emod_nonneg _ (by omega), by rw [Int.one_mul]; exact Int.emod_lt_of_pos _ (by omega)⟩, hW⟩
/-! ### data -/
structure Tm where
  f : Int
  ps : List Int
  n : Int
abbrev ie (i : Int) : Vl := .int i
def Tm.e (t : Tm) : Vl := .tup [.int t.f, .tup (t.ps.map ie), .int t.n]
def Sm.e (s : List Tm) : Vl := .tup (s.map Tm.e)
structure Ru where
  nm : Str
  kd : Str
  ch : List Str
  nb : Int
  vs : List (List Tm)
def Ru.e (r : Ru) : Vl := .tup [.str r.nm, .str r.kd, .tup (r.ch.map .str), .int r.nb, .tup (r.vs.map Sm.e)]
abbrev Kd := Str × List Str
def Kd.e (k : Kd) : Vl := .tup [.str k.1, .tup (k.2.map .str)]
/-- a term over children of these sizes, with nb numbers, factors below 2 ^ w -/
structure TmOk (w : Int) (sz : List Int) (nb : Int) (t : Tm) : Prop where
  f : 0 ≤ t.f ∧ t.f < 2 ^ w.toNat
  len : t.ps.length = sz.length
  ps : ∀ (i : Nat) (p s : Int), t.ps[i]? = some p → sz[i]? = some s → -1 ≤ p ∧ p ≤ s - 1
  n : -1 ≤ t.n ∧ t.n ≤ nb - 1
def SmOk (w : Int) (sz : List Int) (nb : Int) (s : List Tm) : Prop := s.length ≤ 12 ∧ ∀ t ∈ s, TmOk w sz nb t
theorem sum_ok {S : Sto} {n : Nat} {w nb : Int} {sz : List Int} (h : Wl S n) (hw : 1 ≤ w ∧ w ≤ 64) (hs : ∀ s ∈ sz, 0 ≤ s ∧ s < 1000) (hn : 0 ≤ nb ∧ nb < 1000) :
    Ret (m__law_sum [.ref n, .int w, .lst (sz.map ie), .int nb] S) fun v S1 => (∃ s, v = Sm.e s ∧ SmOk w sz nb s) ∧ Wl S1 n := by
  unfold m__law_sum b__law_sum
  refine w_run ?_
  walk_at "wp"
  refine (draw_ok h (by decide) (by decide)).mono fun v S1 ⟨⟨i, hv, h0, h1⟩, hW⟩ => ?_
  subst hv
  obtain ⟨v, hv, hm⟩ := atI_mem (xs := [Vl.int 4, Vl.int 4, Vl.int 4, Vl.int 13]) h0 h1
  have hi : ∃ z : Int, v = .int z ∧ 0 < z ∧ z ≤ 13 := by
    simp at hm
    rcases hm with rfl | rfl <;> exact ⟨_, rfl, by decide, by decide⟩
  obtain ⟨z, rfl, z0, z1⟩ := hi
  refine ⟨_, f_ixL hv, ?_⟩
  walk_at "wp"
  refine (draw_ok hW z0 (by omega)).mono fun v S2 ⟨⟨q, hv, q0, q1⟩, hW⟩ => ?_
  subst hv
  walk_at "wp"
  refine ⟨by omega, ?_⟩
  refine (loop_ret (fun k env S => Wl S n ∧ ∃ (s : List Tm) (s5 s6 s7 : Sv), s.length = k ∧ (∀ t ∈ s, TmOk w sz nb t) ∧ (s7 = .un) ∧ env = [.v (.ref n), .v (.int w), .v (.lst (sz.map ie)), .v (.int nb), .ow (.lst (s.map Tm.e)), s5, s6, s7]) _ 0 _ _ ⟨hW, [], _, _, _, rfl, (fun _ h => nomatch h), rfl, rfl⟩ ?_).mono ?_
  · rintro j x env S3 hx ⟨hW, s, s5, s6, s7, hl, ho, rfl, rfl⟩
    refine ⟨_, rfl, ?_⟩
    walk_at "wp"
    refine (comp_typ ie (fun i p => ∀ s, sz[i]? = some s → -1 ≤ p ∧ p ≤ s - 1) (fun S => Wl S n) _ 0 _ hW ?_).mono fun ys S4 ⟨⟨ps, hys, hlen, hp⟩, hW⟩ => ?_
    · rintro i x S hx hW
      obtain ⟨s0, hs0, rfl⟩ := map_at hx
      have hs1 := hs s0 (List.mem_of_getElem? hs0)
      refine ⟨_, rfl, ?_⟩
      walk_at "wp"
      refine (draw_ok hW (by omega) (by omega)).mono fun v S1 ⟨⟨i, hv, h0, h1⟩, hW⟩ => ?_
      subst hv
      walk_at "wp"
      exact ⟨⟨_, rfl, fun s h => by rw [Nat.zero_add, hs0] at h; cases h; omega⟩, hW⟩
    · subst hys
      rw [List.length_map] at hlen
      walk_at "wp"
      refine (number_ok hW hw).mono fun v S1 ⟨⟨i, hv, h0, h1⟩, hW⟩ => ?_
      subst hv
      walk_at "wp"
      refine (draw_ok hW (by omega) (by omega)).mono fun v S1 ⟨⟨k, hv, h2, h3⟩, hW⟩ => ?_
      subst hv
      walk_at "wp"
      have hj := (rgI_at hx).1
      refine ⟨by rw [List.length_map]; omega, _, .inl rfl, hW, s ++ [⟨i, ps, k - 1⟩], _, _, _, by simp; omega, fun t ht => ?_, rfl, by rw [List.map_append]; rfl⟩
      rcases List.mem_append.mp ht with ht | ht
      · exact ho t ht
      · rw [List.mem_singleton.mp ht]
        exact ⟨⟨h0, h1⟩, hlen, fun i p s hp' hs' => hp i p hp' s (by rw [Nat.zero_add]; exact hs'), by show -1 ≤ k - 1 ∧ k - 1 ≤ nb - 1; omega⟩
  · rintro _ S4 ⟨e, rfl, hW, s, s5, s6, s7, hl, ho, rfl, rfl⟩
    walk_at "wp"
    rw [rgI_length] at hl
    exact ⟨⟨s, rfl, by omega, ho⟩, hW⟩
def sz (K : List Kd) (nm : Str) : Int := ((K.find? fun k => decide (k.1 = nm)).map fun k => (k.2.length : Int)).getD 0
def szl (K : List Kd) : List (Str × Vl) := K.map fun k => (k.1, .int k.2.length)
theorem kd_find {K : List Kd} {nm : Str} (h : nm ∈ K.map (·.1)) : ∃ k ∈ K, (K.find? fun k => decide (k.1 = nm)) = some k ∧ k.1 = nm := by
  obtain ⟨q, hq, rfl⟩ := List.mem_map.mp h
  cases e : K.find? fun k => decide (k.1 = q.1) with
  | none =>
    have := List.find?_eq_none.mp e q hq
    simp at this
  | some k => exact ⟨k, List.mem_of_find?_eq_some e, rfl, by have := List.find?_some e; simpa using this⟩
theorem sz_ix {S : Sto} {K : List Kd} {nm : Str} (h : nm ∈ K.map (·.1)) : ixF S (dkOf (szl K)) (.str nm) = some (.int (sz K nm)) := by
  obtain ⟨k, hk, e, e2⟩ := kd_find h
  refine f_ixD ?_
  unfold szl
  rw [List.find?_map]
  have : ((fun p : Str × Vl => decide (p.1 = nm)) ∘ fun k : Kd => (k.1, Vl.int k.2.length)) = fun k : Kd => decide (k.1 = nm) := rfl
  rw [this, e]
  show some (k.1, Vl.int k.2.length) = _
  unfold sz
  rw [e, e2]
  rfl
theorem sz_bd {K : List Kd} {nm : Str} (hK : ∀ k ∈ K, k.2.length ≤ 3) (h : nm ∈ K.map (·.1)) : 0 ≤ sz K nm ∧ sz K nm ≤ 3 := by
  obtain ⟨k, hk, e, e2⟩ := kd_find h
  unfold sz
  rw [e]
  have := hK k hk
  show 0 ≤ (k.2.length : Int) ∧ (k.2.length : Int) ≤ 3
  omega
structure KdOk (K : List Kd) : Prop where
  nd : (K.map (·.1)).Nodup
  l0 : K ≠ []
  l1 : K.length ≤ 5
  at1 : ∀ k ∈ K, 1 ≤ k.2.length
  at3 : ∀ k ∈ K, k.2.length ≤ 3
structure RuOk (w : Int) (K : List Kd) (r : Ru) : Prop where
  kd : r.kd ∈ K.map (·.1)
  ch : ∀ c ∈ r.ch, c ∈ K.map (·.1)
  chl : r.ch.length ≤ 2
  nb : 0 ≤ r.nb ∧ r.nb ≤ 2
  vs : (r.vs.length : Int) = sz K r.kd
  sm : ∀ s ∈ r.vs, SmOk w (r.ch.map (sz K)) r.nb s
theorem szl_nd {K : List Kd} (h : (K.map (·.1)).Nodup) : ((szl K).map (·.1)).Nodup := by
  unfold szl
  rw [List.map_map]
  exact h
theorem f_szl {S : Sto} {K : List Kd} (h : (K.map (·.1)).Nodup) : dictF S [.lst (K.map fun k => Vl.tup [.str k.1, .int k.2.length])] = some (dkOf (szl K)) := by
  have := f_dict (S := S) (szl K) (szl_nd h)
  unfold szl at this ⊢
  rw [List.map_map] at this
  exact this
theorem rule_ok {S : Sto} {n : Nat} {w : Int} {K : List Kd} {nm kd : Str} {ch : List Str} (h : Wl S n) (hw : 1 ≤ w ∧ w ≤ 64) (hK : KdOk K) (hk : kd ∈ K.map (·.1)) (hc : ∀ c ∈ ch, c ∈ K.map (·.1)) (hl : ch.length ≤ 2) :
    Ret (m__law_rule [.ref n, .int w, .lst (K.map Kd.e), .str nm, .str kd, .tup (ch.map .str)] S) fun v S1 => (∃ r : Ru, v = r.e ∧ RuOk w K r ∧ r.nm = nm ∧ r.kd = kd ∧ r.ch = ch) ∧ Wl S1 n := by
  unfold m__law_rule b__law_rule
  refine w_run ?_
  walk_at "wp"
  refine comp_pure Kd.e (fun k => .tup [.str k.1, .int k.2.length]) K (fun k _ => ⟨_, rfl, ?_⟩) ?_
  · walk_at "wp"
    rw [List.length_map]
    exact ⟨rfl, rfl⟩
  walk_at "wp"
  refine ⟨_, f_szl hK.nd, ?_⟩
  walk_at "wp"
  refine (draw_ok h (by decide) (by decide)).mono fun v S1 ⟨⟨nb, hv, h0, h1⟩, hW⟩ => ?_
  subst hv
  walk_at "wp"
  refine comp_pure Vl.str (fun c => .int (sz K c)) ch (fun c hcc => ⟨_, rfl, ?_⟩) ?_
  · walk_at "wp"
    exact ⟨_, sz_ix (hc c hcc), rfl, rfl⟩
  walk_at "wp"
  refine ⟨_, sz_ix hk, ?_⟩
  have hb := sz_bd hK.at3 hk
  walk_at "wp"
  refine ⟨by omega, ?_⟩
  have e1 : (ch.map fun c => Vl.int (sz K c)) = (ch.map (sz K)).map ie := by rw [List.map_map]; rfl
  rw [e1]
  refine (comp_typ Sm.e (fun _ s => SmOk w (ch.map (sz K)) nb s) (fun S => Wl S n) _ 0 _ hW ?_).mono fun ys S4 ⟨⟨vs, hys, hlen, hp⟩, hW⟩ => ?_
  · rintro i x S hx hW
    refine ⟨_, rfl, ?_⟩
    walk_at "wp"
    refine (sum_ok hW hw (fun s hs => ?_) ⟨h0, by omega⟩).mono fun v S1 h => h
    obtain ⟨c, hcc, rfl⟩ := List.mem_map.mp hs
    have := sz_bd hK.at3 (hc c hcc)
    omega
  · subst hys
    rw [rgI_length] at hlen
    walk_at "wp"
    exact ⟨⟨⟨nm, kd, ch, nb, vs⟩, rfl, ⟨hk, hc, hl, ⟨h0, by show nb ≤ 2; omega⟩, by show (vs.length : Int) = sz K kd; rw [hlen]; omega, fun s hs => by
      obtain ⟨i, hi⟩ := List.getElem?_of_mem hs
      exact hp i s hi⟩, rfl, rfl, rfl⟩, hW⟩
def strB (s : Str) : Bool := s.cps.all (· < 0x110000)
theorem okTm (n : Nat) (t : Tm) : okN (n + 3) t.e = true := by
  have h : (t.ps.map ie).all (okN (n + 1)) = true := all_map ie fun _ _ => rfl
  show ([Vl.int t.f, .tup (t.ps.map ie), .int t.n].all (okN (n + 2))) = true
  simp only [List.all_cons, List.all_nil, Bool.and_true]
  show (true && ((t.ps.map ie).all (okN (n + 1)) && true)) = true
  rw [h]
  rfl
theorem okSm (n : Nat) (s : List Tm) : okN (n + 4) (Sm.e s) = true := all_map Tm.e fun t _ => okTm n t
theorem okStrs (n : Nat) {l : List Str} (h : ∀ s ∈ l, strB s = true) : (l.map Vl.str).all (okN (n + 1)) = true := all_map Vl.str fun s hs => h s hs
theorem okKd (n : Nat) {k : Kd} (h1 : strB k.1 = true) (h2 : ∀ s ∈ k.2, strB s = true) : okN (n + 3) k.e = true := by
  show ([Vl.str k.1, .tup (k.2.map .str)].all (okN (n + 2))) = true
  simp only [List.all_cons, List.all_nil, Bool.and_true]
  show (strB k.1 && (k.2.map Vl.str).all (okN (n + 1))) = true
  rw [h1, okStrs n h2]
  rfl
theorem okRu (n : Nat) {r : Ru} (h1 : strB r.nm = true) (h2 : strB r.kd = true) (h3 : ∀ s ∈ r.ch, strB s = true) : okN (n + 6) r.e = true := by
  show ([Vl.str r.nm, .str r.kd, .tup (r.ch.map .str), .int r.nb, .tup (r.vs.map Sm.e)].all (okN (n + 5))) = true
  simp only [List.all_cons, List.all_nil, Bool.and_true]
  show (strB r.nm && (strB r.kd && ((r.ch.map Vl.str).all (okN (n + 4)) && (true && (r.vs.map Sm.e).all (okN (n + 4)))))) = true
  rw [h1, h2, okStrs (n + 3) h3, all_map Sm.e fun s _ => okSm n s]
  rfl
/-! ### names -/
def kn : List Str := ["zed", "row", "a", "leaf", "k"]
def pn : List Str := ["y", "x", "n"]
def wn : List Str := ["one", "r", "put", "nil", "f", "g", "h", "abcdefgh", "s", "t", "u", "v"]
structure KdV (K : List Kd) : Prop where
  l0 : 1 ≤ K.length
  l1 : K.length ≤ 5
  nm : K.map (·.1) = kn.take K.length
  at_ : ∀ k ∈ K, ∃ j : Nat, 1 ≤ j ∧ j ≤ 3 ∧ k.2 = pn.take j
theorem take_nd {l : List Str} {n : Nat} (h : l.Nodup) : (l.take n).Nodup := List.Pairwise.sublist (List.take_sublist n l) h
theorem kn_nd : kn.Nodup := by decide +kernel
theorem KdV.ok {K : List Kd} (h : KdV K) : KdOk K where
  nd := by rw [h.nm]; exact take_nd kn_nd
  l0 := fun z => by have := h.l0; rw [z] at this; simp at this
  l1 := h.l1
  at1 := fun k hk => by
    obtain ⟨j, j1, j3, e⟩ := h.at_ k hk
    rw [e, List.length_take]
    show 1 ≤ min j 3
    omega
  at3 := fun k hk => by
    obtain ⟨j, j1, j3, e⟩ := h.at_ k hk
    rw [e, List.length_take]
    show min j 3 ≤ 3
    omega
theorem KdV.mem {K : List Kd} (h : KdV K) {s : Str} (hs : s ∈ K.map (·.1)) : s ∈ kn := by
  rw [h.nm] at hs
  exact List.mem_of_mem_take hs
theorem kn_str : ∀ s ∈ kn, strB s = true := by decide +kernel
theorem pn_str : ∀ s ∈ pn, strB s = true := by decide +kernel
theorem wn_str : ∀ s ∈ wn, strB s = true := by decide +kernel
theorem kinds_ok {S : Sto} {n : Nat} (h : Wl S n) : Ret (m__law_kinds [.ref n, .int 5, .int 3] S) fun v S1 => (∃ K, v = .lst (K.map Kd.e) ∧ KdV K) ∧ Wl S1 n := by
  unfold m__law_kinds b__law_kinds
  refine w_run ?_
  walk_at "wp"
  refine (draw_ok h (by decide) (by decide)).mono fun v S1 ⟨⟨i, hv, h0, h1⟩, hW⟩ => ?_
  subst hv
  walk_at "wp"
  refine ⟨by omega, ?_⟩
  refine (loop_ret (fun k env S => Wl S n ∧ ∃ (K : List Kd) (s6 : Sv), K.length = k ∧ K.map (·.1) = kn.take k ∧ (∀ k ∈ K, ∃ j : Nat, 1 ≤ j ∧ j ≤ 3 ∧ k.2 = pn.take j) ∧ env = [.v (.ref n), .v (.int 5), .v (.int 3), .v (.lst (kn.map .str)), .v (.lst (pn.map .str)), .ow (.lst (K.map Kd.e)), s6]) _ 0 _ _ ⟨hW, [], _, rfl, rfl, (fun _ h => nomatch h), rfl⟩ ?_).mono ?_
  · rintro j x env S3 hx ⟨hW, K, s6, hl, hn, ho, rfl⟩
    obtain ⟨hj, rfl⟩ := rgI_at hx
    have hj5 : j < kn.length := by show j < 5; omega
    refine ⟨_, rfl, ?_⟩
    walk_at "wp"
    refine ⟨.str kn[j], f_ixL (by rw [Dm.atI_nat, List.getElem?_map, List.getElem?_eq_getElem hj5]; rfl), ?_⟩
    walk_at "wp"
    refine (draw_ok hW (by decide) (by decide)).mono fun v S1 ⟨⟨q, hv, q0, q1⟩, hW⟩ => ?_
    subst hv
    walk_at "wp"
    have ec : cutL (pn.map Vl.str) none (some (1 + q)) = (pn.take (1 + q).toNat).map .str := by
      obtain ⟨m, rfl⟩ := Int.eq_ofNat_of_zero_le q0
      have hm : m < 3 := by omega
      match m, hm with
      | 0, _ => rfl
      | 1, _ => rfl
      | 2, _ => rfl
    rw [ec]
    refine ⟨by rw [List.length_map]; omega, _, .inl rfl, hW, K ++ [(kn[j], pn.take (1 + q).toNat)], _, by simp; omega, ?_, fun k hk => ?_, by rw [List.map_append]; rfl⟩
    · rw [List.map_append, hn]
      have : 0 + j + 1 = j + 1 := by omega
      rw [this, List.take_succ, List.getElem?_eq_getElem hj5, Nat.zero_add]
      rfl
    · rcases List.mem_append.mp hk with hk | hk
      · exact ho k hk
      · rw [List.mem_singleton.mp hk]
        exact ⟨(1 + q).toNat, by omega, by omega, rfl⟩
  · rintro _ S4 ⟨e, rfl, hW, K, s6, hl, hn, ho, rfl⟩
    walk_at "wp"
    rw [rgI_length] at hl hn
    exact ⟨⟨K, rfl, by omega, by omega, by rw [hn, hl], ho⟩, hW⟩
structure RsOk (w : Int) (K : List Kd) (R : List Ru) : Prop where
  nm : R.map (·.nm) = wn.take R.length
  ok : ∀ r ∈ R, RuOk w K r
theorem RsOk.add {w : Int} {K : List Kd} {R : List Ru} (h : RsOk w K R) {r : Ru} (hl : R.length < 12) (hr : RuOk w K r) (hn : r.nm = wn[R.length]'hl) : RsOk w K (R ++ [r]) where
  nm := by
    rw [List.map_append, h.nm, List.length_append]
    show wn.take R.length ++ [r.nm] = wn.take (R.length + 1)
    rw [List.take_succ, List.getElem?_eq_getElem (show R.length < wn.length from hl), hn]
    rfl
  ok := fun q hq => by
    rcases List.mem_append.mp hq with hq | hq
    · exact h.ok q hq
    · rw [List.mem_singleton.mp hq]
      exact hr
theorem RsOk.okD {w : Int} {K : List Kd} {R : List Ru} (hK : KdV K) (h : RsOk w K R) : Dm.okD (.lst (R.map Ru.e)) = true := by
  refine all_map Ru.e fun r hr => ?_
  have hn : r.nm ∈ wn := by
    have : r.nm ∈ R.map (·.nm) := List.mem_map_of_mem hr
    rw [h.nm] at this
    exact List.mem_of_mem_take this
  exact okRu 53 (wn_str _ hn) (kn_str _ (hK.mem (h.ok r hr).kd)) fun s hs => kn_str _ (hK.mem ((h.ok r hr).ch s hs))
theorem word_at {R : List Ru} (hl : R.length < 12) : atI (wn.map Vl.str) ((R.map Ru.e).length : Int) = some (.str (wn[R.length]'hl)) := by
  rw [List.length_map, Dm.atI_nat, List.getElem?_map, List.getElem?_eq_getElem (show R.length < wn.length from hl)]
  rfl
theorem rules_ok {S : Sto} {n : Nat} {w : Int} {K : List Kd} (h : Wl S n) (hw : 1 ≤ w ∧ w ≤ 64) (hK : KdV K) :
    Ret (m__law_rules [.ref n, .int w, .lst (K.map Kd.e), .int 7] S) fun v S1 => (∃ R, v = .lst (R.map Ru.e) ∧ RsOk w K R ∧ 1 ≤ R.length ∧ R.length ≤ 12) ∧ Wl S1 n := by
  have one1 : ∀ {S : Sto}, Wl S n → Ret (m__law_one [.ref n, .lst (K.map Kd.e)] S) fun v S1 => (∃ k ∈ K, v = Kd.e k) ∧ Wl S1 n := fun hW =>
    (one_ok hW (fun z => hK.ok.l0 (by simpa using z)) (by rw [List.length_map]; have := hK.l1; omega)).mono fun v S1 ⟨hv, hW⟩ => by
      obtain ⟨k, hk, rfl⟩ := List.mem_map.mp hv
      exact ⟨⟨k, hk, rfl⟩, hW⟩
  unfold m__law_rules b__law_rules
  refine w_run ?_
  walk_at "wp"
  refine (loop_ret (fun k env S => Wl S n ∧ ∃ (R : List Ru) (s6 s7 : Sv), R.length ≤ k ∧ RsOk w K R ∧ env = [.v (.ref n), .v (.int w), .v (.lst (K.map Kd.e)), .v (.int 7), .v (.lst (wn.map .str)), .ow (.lst (R.map Ru.e)), s6, s7, .un, .un, .un]) _ 0 _ _ ⟨h, [], _, _, Nat.le_refl _, ⟨rfl, fun _ h => nomatch h⟩, rfl⟩ ?_).mono ?_
  · rintro j x env S3 hx ⟨hW, R, s6, s7, hl, ho, rfl⟩
    obtain ⟨k, hk, rfl⟩ := map_at hx
    have hj := (List.getElem?_eq_some_iff.mp hk).1
    have hk1 : k.1 ∈ K.map (·.1) := List.mem_map_of_mem (List.mem_of_getElem? hk)
    have h5 := hK.l1
    have hR : R.length < 12 := by omega
    have add : ∀ {S : Sto}, Wl S n → Ret (appO 5 (callM m__law_rule (consA (varM 0) (consA (varM 1) (consA (varM 2) (consA (bin2 ixF (varM 4) (cB lenF (consA (varL 5) nilA))) (consA (varM 6) (consA (tupM nilA) nilA)))))))
        [.v (.ref n), .v (.int w), .v (.lst (K.map Kd.e)), .v (.int 7), .v (.lst (wn.map .str)), .ow (.lst (R.map Ru.e)), .v (.str k.1), .v (.tup (k.2.map .str)), .un, .un, .un] S) fun fl S1 => ∃ e2, (fl = .nx e2 ∨ fl = .ct e2) ∧ Wl S1 n ∧ ∃ (R : List Ru) (s6 s7 : Sv), R.length ≤ 0 + j + 1 ∧ RsOk w K R ∧ e2 = [.v (.ref n), .v (.int w), .v (.lst (K.map Kd.e)), .v (.int 7), .v (.lst (wn.map .str)), .ow (.lst (R.map Ru.e)), s6, s7, .un, .un, .un] := fun {S} hW => by
      walk_at "wp"
      refine ⟨_, f_ixL (word_at hR), ?_⟩
      walk_at "wp"
      refine (rule_ok (ch := []) hW hw hK.ok hk1 (fun _ h => nomatch h) (by decide)).mono fun v S1 ⟨⟨r, hv, hr, hn, _, _⟩, hW⟩ => ?_
      subst hv
      exact ⟨by rw [List.length_map]; omega, _, .inl rfl, hW, R ++ [r], _, _, by simp; omega, ho.add hR hr hn, by rw [List.map_append]; rfl⟩
    refine ⟨_, rfl, ?_⟩
    walk_at "wp"
    refine ⟨_, f_eq (ho.okD hK) rfl, ?_⟩
    walk_at "wp"
    refine ⟨fun hk => ?_, fun hk => ?_⟩
    · refine ⟨fun _ => add hW, fun z => ?_⟩
      cases z
    · walk_at "wp"
      refine (draw_ok hW (by decide) (by decide)).mono fun v S1 ⟨⟨q, hv, q0, q1⟩, hW⟩ => ?_
      subst hv
      walk_at "wp"
      refine ⟨fun _ => add hW, fun _ => ?_⟩
      walk_at "wp"
      exact ⟨_, .inl rfl, hW, R, _, _, by omega, ho, rfl⟩
  · rintro _ S4 ⟨e, rfl, hW, R, s6, s7, hl, ho, rfl⟩
    rw [List.length_map] at hl
    have h5 := hK.l1
    walk_at "wp"
    refine (draw_ok hW (by decide) (by decide)).mono fun v S1 ⟨⟨i, hv, h0, h1⟩, hW⟩ => ?_
    subst hv
    walk_at "wp"
    refine ⟨by omega, ?_⟩
    refine (loop_ret (fun k env S => Wl S n ∧ ∃ (R : List Ru) (s8 s9 : Sv), k ≤ R.length ∧ R.length ≤ 5 + k ∧ RsOk w K R ∧ env = [.v (.ref n), .v (.int w), .v (.lst (K.map Kd.e)), .v (.int 7), .v (.lst (wn.map .str)), .ow (.lst (R.map Ru.e)), s6, s7, s8, s9, .un]) _ 0 _ _ ⟨hW, R, _, _, Nat.zero_le _, by omega, ho, rfl⟩ ?_).mono ?_
    · rintro j x env S3 hx ⟨hW, R, s8, s9, hl, hl2, ho, rfl⟩
      obtain ⟨hj, rfl⟩ := rgI_at hx
      have hR : R.length < 12 := by omega
      refine ⟨_, rfl, ?_⟩
      walk_at "wp"
      refine (draw_ok hW (by decide) (by decide)).mono fun v S1 ⟨⟨q, hv, q0, q1⟩, hW⟩ => ?_
      subst hv
      walk_at "wp"
      refine ⟨by omega, ?_⟩
      refine (comp_typ Vl.str (fun _ s => s ∈ K.map (·.1)) (fun S => Wl S n) _ 0 _ hW ?_).mono fun ys S4 ⟨⟨ch, hys, hlen, hp⟩, hW⟩ => ?_
      · rintro i x S hx hW
        refine ⟨_, rfl, ?_⟩
        walk_at "wp"
        refine (one1 hW).mono fun v S1 ⟨⟨k, hk, hv⟩, hW⟩ => ?_
        subst hv
        walk_at "wp"
        exact ⟨⟨k.1, rfl, List.mem_map_of_mem hk⟩, hW⟩
      · subst hys
        rw [rgI_length] at hlen
        have hch : ∀ c ∈ ch, c ∈ K.map (·.1) := fun c hc => by
          obtain ⟨i, hi⟩ := List.getElem?_of_mem hc
          exact hp i c hi
        walk_at "wp"
        refine ⟨_, f_ixL (word_at hR), ?_⟩
        walk_at "wp"
        refine (one1 hW).mono fun v S1 ⟨⟨k, hk, hv⟩, hW⟩ => ?_
        subst hv
        walk_at "wp"
        refine (rule_ok hW hw hK.ok (List.mem_map_of_mem hk) hch (by omega)).mono fun v S1 ⟨⟨r, hv, hr, hn, _, _⟩, hW⟩ => ?_
        subst hv
        exact ⟨by rw [List.length_map]; omega, _, .inl rfl, hW, R ++ [r], _, _, by simp; omega, by simp; omega, ho.add hR hr hn, by rw [List.map_append]; rfl⟩
    · rintro _ S4 ⟨e, rfl, hW, R, s8, s9, hl, hl2, ho, rfl⟩
      walk_at "wp"
      rw [rgI_length] at hl hl2
      exact ⟨⟨R, rfl, ho, by omega, by omega⟩, hW⟩
def FmOk (w : Int) (k : Nat) (f : List Int) : Prop := f.length = k ∧ ∀ x ∈ f, 0 ≤ x ∧ x < 2 ^ w.toNat
def Fm.e (f : List Int) : Vl := .tup (f.map ie)
theorem form_ok {S : Sto} {n : Nat} {w many : Int} (h : Wl S n) (hw : 1 ≤ w ∧ w ≤ 64) (hm : 0 ≤ many ∧ many < 1000) :
    Ret (m__law_form [.ref n, .int w, .int many] S) fun v S1 => (∃ f, v = Fm.e f ∧ FmOk w (many + 1).toNat f) ∧ Wl S1 n := by
  have hp := pow_le hw
  unfold m__law_form b__law_form
  refine w_run ?_
  walk_at "wp"
  refine ⟨by omega, ?_⟩
  refine (comp_typ ie (fun _ x => 0 ≤ x ∧ x < 2 ^ w.toNat) (fun S => Wl S n) _ 0 _ h ?_).mono fun ys S4 ⟨⟨f, hys, hlen, hp⟩, hW⟩ => ?_
  · rintro i x S hx hW
    refine ⟨_, rfl, ?_⟩
    walk_at "wp"
    refine (number_ok hW hw).mono fun v S1 ⟨⟨a, hv, a0, a1⟩, hW⟩ => ?_
    subst hv
    walk_at "wp"
    refine (draw_ok hW (by decide) (by decide)).mono fun v S1 ⟨⟨q, hv, q0, q1⟩, hW⟩ => ?_
    subst hv
    walk_at "wp"
    refine ⟨⟨_, rfl, ?_⟩, hW⟩
    split <;> omega
  · subst hys
    rw [rgI_length] at hlen
    walk_at "wp"
    refine ⟨⟨f, rfl, hlen, fun x hx => ?_⟩, hW⟩
    obtain ⟨i, hi⟩ := List.getElem?_of_mem hx
    exact hp i x hi
def kdl (K : List Kd) : List (Str × Vl) := K.map fun k => (k.1, .tup (k.2.map .str))
theorem f_kdl {S : Sto} {K : List Kd} (h : (K.map (·.1)).Nodup) : dictF S [.lst (K.map Kd.e)] = some (dkOf (kdl K)) := by
  have hn : ((kdl K).map (·.1)).Nodup := by
    unfold kdl
    rw [List.map_map]
    exact h
  have := f_dict (S := S) (kdl K) hn
  unfold kdl at this ⊢
  rw [List.map_map] at this
  exact this
theorem kdl_ix {S : Sto} {K : List Kd} {nm : Str} (h : nm ∈ K.map (·.1)) : ∃ l : List Str, ixF S (dkOf (kdl K)) (.str nm) = some (.tup (l.map .str)) ∧ (l.length : Int) = sz K nm := by
  obtain ⟨k, hk, e, e2⟩ := kd_find h
  refine ⟨k.2, f_ixD ?_, ?_⟩
  · unfold kdl
    rw [List.find?_map]
    have : ((fun p : Str × Vl => decide (p.1 = nm)) ∘ fun k : Kd => (k.1, Vl.tup (k.2.map .str))) = fun k : Kd => decide (k.1 = nm) := rfl
    rw [this, e]
    show some (k.1, Vl.tup (k.2.map .str)) = _
    rw [e2]
  · unfold sz
    rw [e]
    rfl
theorem answers_ok {S : Sto} {n : Nat} {w : Int} {K : List Kd} {top : Str} (h : Wl S n) (hw : 1 ≤ w ∧ w ≤ 64) (hK : KdV K) (ht : top ∈ K.map (·.1)) :
    Ret (m__law_answers [.ref n, .int w, .lst (K.map Kd.e), .str top] S) fun v S1 => (∃ A : List (List Int), v = .lst (A.map Fm.e) ∧ 1 ≤ A.length ∧ A.length ≤ 4 ∧ ∀ f ∈ A, FmOk w (sz K top + 1).toNat f) ∧ Wl S1 n := by
  have hb := sz_bd hK.ok.at3 ht
  unfold m__law_answers b__law_answers
  refine w_run ?_
  walk_at "wp"
  refine ⟨_, f_kdl hK.ok.nd, ?_⟩
  walk_at "wp"
  obtain ⟨l, hl, hl2⟩ := kdl_ix (S := S) ht
  refine ⟨_, hl, ?_⟩
  walk_at "wp"
  rw [List.length_map, hl2]
  refine (draw_ok h (by decide) (by decide)).mono fun v S1 ⟨⟨q, hv, q0, q1⟩, hW⟩ => ?_
  subst hv
  walk_at "wp"
  refine ⟨by omega, ?_⟩
  refine (comp_typ Fm.e (fun _ f => FmOk w (sz K top + 1).toNat f) (fun S => Wl S n) _ 0 _ hW ?_).mono fun ys S4 ⟨⟨A, hys, hlen, hp⟩, hW⟩ => ?_
  · rintro i x S hx hW
    refine ⟨_, rfl, ?_⟩
    walk_at "wp"
    exact form_ok hW hw (by omega)
  · subst hys
    rw [rgI_length] at hlen
    refine ⟨⟨A, rfl, by omega, by omega, fun f hf => ?_⟩, hW⟩
    obtain ⟨i, hi⟩ := List.getElem?_of_mem hf
    exact hp i f hi
def red (w : Int) (t : Tm) : Tm := { t with f := t.f % 2 ^ w.toNat }
def redS (w : Int) (s : List Tm) : List Tm := s.map (red w)
def redR (w : Int) (r : Ru) : Ru := { r with vs := r.vs.map (redS w) }
end G06

set_option Elab.async false
set_option linter.all false
set_option maxRecDepth 100000
set_option autoImplicit false
set_option maxHeartbeats 1000000
namespace G06
open PySem PySem.Spec L2 Dm
local macro_rules | `(tactic| walk_at "wp") => `(tactic| (repeat (first | ((with_reducible apply w_var); exact rfl) | ((with_reducible apply w_varO); exact rfl) | ((with_reducible apply w_varL); exact rfl) | with_reducible refine w_c ?_ | with_reducible refine w_bin ?_ | with_reducible refine w_un ?_ | with_reducible refine w_cB ?_ | with_reducible refine w_tv ?_ | with_reducible refine w_cons ?_ | with_reducible refine w_nil ?_ | with_reducible refine w_tup ?_ | with_reducible refine w_lst ?_ | with_reducible refine w_call ?_ | with_reducible refine w_callD ?_ | with_reducible refine w_orT ?_ | with_reducible refine w_notT ?_ | with_reducible refine w_andV ?_ | with_reducible refine w_ch ?_ | with_reducible refine w_isi ?_ | with_reducible refine w_sl ?_ | with_reducible refine w_oN ?_ | with_reducible refine w_oS ?_ | with_reducible refine w_seqI ?_ | with_reducible refine w_enI ?_ | with_reducible refine w_zpI ?_ | with_reducible refine w_strI ?_ | ((with_reducible apply w_comp); exact rfl) | with_reducible refine w_assoc ?_ | with_reducible refine w_qnil ?_ | with_reducible refine w_qset ?_ | with_reducible refine w_qown ?_ | with_reducible refine w_qexpr ?_ | with_reducible refine w_qret ?_ | with_reducible refine w_qif ?_ | ((with_reducible apply w_qapp); exact rfl) | with_reducible refine w_qsf2 ?_ | with_reducible refine w_sf2 ?_ | with_reducible refine w_qparVO ?_ | with_reducible refine w_qfor ?_ | with_reducible refine w_for ?_ | with_reducible refine w_nilS ?_ | with_reducible refine w_ret ?_ | with_reducible refine w_ifS ?_ | with_reducible refine w_set ?_ | with_reducible refine w_expr ?_ | ((with_reducible apply w_app); exact rfl) | with_reducible refine ⟨_, f_add, ?_⟩ | with_reducible refine ⟨_, f_sub, ?_⟩ | with_reducible refine ⟨_, f_neg, ?_⟩ | with_reducible refine ⟨_, f_cmp, ?_⟩ | with_reducible refine ⟨_, f_neI, ?_⟩ | with_reducible refine ⟨_, f_eqI, ?_⟩ | with_reducible refine ⟨_, f_lenL, ?_⟩ | with_reducible refine ⟨_, f_lenT, ?_⟩ | with_reducible refine ⟨_, f_tupL, ?_⟩ | with_reducible refine ⟨_, f_tupT, ?_⟩ | with_reducible refine ⟨_, f_all, ?_⟩ | with_reducible refine ⟨_, f_inD, ?_⟩ | with_reducible refine ⟨_, f_notInD, ?_⟩ | with_reducible refine ⟨_, f_inL, ?_⟩ | with_reducible refine ⟨_, f_notInT, ?_⟩ | with_reducible refine ⟨_, f_lenQ, ?_⟩ | with_reducible refine ⟨_, tyQ, ?_⟩ | with_reducible refine ⟨_, seqQ, ?_⟩ | with_reducible refine ⟨_, tupQ, ?_⟩ | with_reducible refine ⟨_, _, rfl, seqQ, ?_⟩ | with_reducible refine ⟨_, _, rfl, rfl, ?_⟩ | with_reducible refine ⟨_, _, _, rfl, rfl, ?_⟩ | with_reducible refine ⟨_, _, _, _, rfl, rfl, rfl, ?_⟩ | with_reducible refine ⟨_, f_slL, ?_⟩ | with_reducible refine ⟨_, f_slT, ?_⟩ | ((with_reducible refine ⟨_, f_mod ?_, ?_⟩); (first | assumption | omega | decide)) | ((with_reducible refine ⟨_, f_shl ?_, ?_⟩); (first | omega | decide)) | with_reducible refine ⟨_, f_in0, ?_⟩ | with_reducible refine ⟨_, f_notInL, ?_⟩ | with_reducible refine ⟨_, rfl, ?_⟩ | ((with_reducible refine ⟨_, f_lenS ?_, ?_⟩); omega) | with_reducible refine ret_ok.mpr ?_ | refine w_yes rfl ?_ | refine w_no rfl ?_ | ((with_reducible refine w_yes (decide_eq_true ?_) ?_); omega) | ((with_reducible refine w_no (decide_eq_false ?_) ?_); omega) | ((with_reducible refine w_nyes ?_ ?_); omega) | ((with_reducible refine w_nno ?_ ?_); omega))))
abbrev Yes (S : Sto) : Vl → Sto → Prop := fun v S1 => v = .bl true ∧ S1 = S
theorem is_int_ok {S : Sto} {i : Int} : Ret (m_is_int [.int i] S) (Yes S) := ⟨_, _, rfl, rfl, rfl⟩
theorem is_from_ok {S : Sto} {i a b : Int} (h : a ≤ i ∧ i ≤ b) : Ret (m_is_from [.int i, .int a, .int b] S) (Yes S) := by
  unfold m_is_from b_is_from
  refine w_run ?_
  walk_at "wp"
  refine is_int_ok.mono ?_
  rintro _ _ ⟨rfl, rfl⟩
  walk_at "wp"
  exact ⟨by rw [decide_eq_true h.2], rfl⟩
def abc : Str := "abcdefghijklmnopqrstuvwxyz"
def nameV (s : Str) : Bool := decide (1 ≤ s.cps.size) && decide (s.cps.size ≤ 8) && s.cps.toList.all fun c => decide (c ∈ abc.cps.toList)
theorem is_name_ok {S : Sto} {s : Str} (h : nameV s = true) : Ret (m_is_name [.str s] S) (Yes S) := by
  unfold nameV at h
  simp only [Bool.and_eq_true, decide_eq_true_eq, List.all_eq_true] at h
  obtain ⟨⟨h1, h2⟩, h3⟩ := h
  unfold m_is_name b_is_name
  refine w_run ?_
  walk_at "wp"
  refine ⟨by omega, ?_⟩
  refine w_all (fun i x hx => ⟨_, rfl, ?_⟩) ?_
  · unfold chars at hx
    obtain ⟨c, hc, rfl⟩ := map_at hx
    walk_at "wp"
    exact ⟨congrArg Vl.bl (decide_eq_true (h3 c (List.mem_of_getElem? hc))), rfl⟩
  walk_at "wp"
  exact ⟨rfl, rfl⟩
theorem are_names_ok {S : Sto} {l : List Str} {m : Int} (h1 : 1 ≤ l.length) (h2 : (l.length : Int) ≤ m) (hn : ∀ s ∈ l, nameV s = true) (hd : l.Nodup) : Ret (m_are_names [.tup (l.map .str), .int m] S) (Yes S) := by
  unfold m_are_names b_are_names
  refine w_run ?_
  walk_at "wp"
  rw [List.length_map]
  walk_at "wp"
  refine w_all (fun i x hx => ?_) ?_
  · obtain ⟨y, hy, rfl⟩ := enL_at hx
    obtain ⟨s, hs, rfl⟩ := map_at hy
    refine ⟨_, rfl, ?_⟩
    walk_at "wp"
    refine (is_name_ok (hn s (List.mem_of_getElem? hs))).mono ?_
    rintro _ _ ⟨rfl, rfl⟩
    walk_at "wp"
    have ec : cutL (l.map Vl.str) none (some (i : Int)) = (l.take i).map .str := by
      unfold cutL
      rw [HT.sIx_none, HT.sIx_nat, List.drop_zero, Nat.sub_zero, List.map_take]
      have hi := (List.getElem?_eq_some_iff.mp hs).1
      rw [List.length_map, Nat.min_eq_left (by omega)]
    rw [ec]
    refine ⟨_, f_notInT, ?_, rfl⟩
    have : s ∉ l.take i := fun z => by
      obtain ⟨j, hj⟩ := List.getElem?_of_mem z
      have hjl := (List.getElem?_eq_some_iff.mp hj).1
      rw [List.length_take] at hjl
      rw [List.getElem?_take_of_lt (by omega)] at hj
      have hi := (List.getElem?_eq_some_iff.mp hs).1
      have := (List.getElem?_inj (by omega) hd).mp (hj.trans hs.symm)
      omega
    rw [decide_eq_false this]
    rfl
  walk_at "wp"
  exact ⟨rfl, rfl⟩
/-! ### kinds, terms, sums, rules -/
structure KdN (K : List Kd) : Prop where
  nd : (K.map (·.1)).Nodup
  l0 : 1 ≤ K.length
  l1 : K.length ≤ 5
  nm : ∀ k ∈ K, nameV k.1 = true
  at1 : ∀ k ∈ K, 1 ≤ k.2.length ∧ k.2.length ≤ 3
  atn : ∀ k ∈ K, ∀ s ∈ k.2, nameV s = true
  atd : ∀ k ∈ K, k.2.Nodup
theorem check_kinds_ok {S : Sto} {K : List Kd} {v : Vl} (hv : v = .lst (K.map Kd.e) ∨ v = .tup (K.map Kd.e)) (h : KdN K) : Ret (m_check_kinds [v] S) fun _ S1 => S1 = S := by
  have hl := h.l0
  have hl1 := h.l1
  have hlm : (K.map Kd.e).length = K.length := List.length_map ..
  unfold m_check_kinds b_check_kinds
  refine w_run ?_
  have main : ∀ v, (v = .lst (K.map Kd.e) ∨ v = .tup (K.map Kd.e)) → Ret (loopS (tfT (tfCons (tfN 2) (tfCons (tfN 3) tfNil))) (seqS (ifS (orT (notT (tv (isiM [.tup] (varM 3)))) (orT (tv (bin2 neF (cB lenF (consA (varM 3) nilA)) (cM (.int 2)))) (orT (notT (tv (callM m_is_name (consA (bin2 ixF (varM 3) (cM (.int 0))) nilA)))) (tv (bin2 inF (bin2 ixF (varM 3) (cM (.int 0))) (varL 1)))))) badS nilS)
      (seqS (ifS (notT (tv (callM m_are_names (consA (bin2 ixF (varM 3) (cM (.int 1))) (consA (cM (.int 3)) nilA))))) badS nilS) (appO 1 (bin2 ixF (varM 3) (cM (.int 0)))))) (enL (K.map Kd.e)) [.v v, .ow (.lst []), .un, .un] S) fun fl S1 => (∃ e, fl = .nx e) ∧ S1 = S := fun v hv => by
    refine (loop_ret (fun k env S1 => S1 = S ∧ ∃ s2 s3 : Sv, env = [.v v, .ow (.lst (((K.take k).map (·.1)).map .str)), s2, s3]) _ 0 _ _ ⟨rfl, _, _, rfl⟩ ?_).mono ?_
    · rintro j x env S1 hx ⟨rfl, s2, s3, rfl⟩
      obtain ⟨y, hy, rfl⟩ := enL_at hx
      obtain ⟨k, hk, rfl⟩ := map_at hy
      have hm := List.mem_of_getElem? hk
      have hj := (List.getElem?_eq_some_iff.mp hk).1
      refine ⟨_, rfl, ?_⟩
      walk_at "wp"
      refine (is_name_ok (h.nm k hm)).mono ?_
      rintro _ _ ⟨rfl, rfl⟩
      walk_at "wp"
      have hn : k.1 ∉ (K.take (0 + j)).map (·.1) := fun z => by
        rw [Nat.zero_add, List.map_take] at z
        obtain ⟨i, hi⟩ := List.getElem?_of_mem z
        have hil := (List.getElem?_eq_some_iff.mp hi).1
        rw [List.length_take, List.length_map] at hil
        rw [List.getElem?_take_of_lt (by omega)] at hi
        have hkk : (K.map (·.1))[j]? = some k.1 := by rw [List.getElem?_map, hk]; rfl
        have := (List.getElem?_inj (by rw [List.length_map]; omega) h.nd).mp (hi.trans hkk.symm)
        omega
      refine w_no (decide_eq_false hn) ?_
      walk_at "wp"
      have a1 := h.at1 k hm
      refine (are_names_ok a1.1 (by omega) (h.atn k hm) (h.atd k hm)).mono ?_
      rintro _ _ ⟨rfl, rfl⟩
      walk_at "wp"
      refine ⟨by simp; omega, _, .inl rfl, rfl, .v (.int j), .v k.e, ?_⟩
      show [Sv.v v, Sv.ow (.lst (((K.take (0 + j)).map (·.1)).map Vl.str ++ [.str k.1])), .v (.int j), .v k.e] = _
      rw [List.take_succ, show 0 + j = j from Nat.zero_add j, hk]
      simp
    · rintro fl S1 ⟨e, rfl, rfl, _⟩
      exact ⟨⟨e, rfl⟩, rfl⟩
  rcases hv with rfl | rfl
  · walk_at "wp"
    refine (main _ (.inl rfl)).mono ?_
    rintro _ S1 ⟨⟨e, rfl⟩, rfl⟩
    rfl
  · walk_at "wp"
    refine (main _ (.inr rfl)).mono ?_
    rintro _ S1 ⟨⟨e, rfl⟩, rfl⟩
    rfl
structure TmV (z : List Int) (nb : Int) (t : Tm) : Prop where
  len : t.ps.length = z.length
  ps : ∀ (i : Nat) (p s : Int), t.ps[i]? = some p → z[i]? = some s → -1 ≤ p ∧ p ≤ s - 1
  n : -1 ≤ t.n ∧ t.n ≤ nb - 1
theorem is_term_ok {S : Sto} {z : List Int} {nb : Int} {t : Tm} (h : TmV z nb t) : Ret (m_is_term [t.e, .lst (z.map ie), .int nb] S) (Yes S) := by
  have hl1 : (t.ps.map ie).length = t.ps.length := List.length_map ..
  have hl2 : (z.map ie).length = z.length := List.length_map ..
  have hl3 := h.len
  have hn := h.n
  unfold m_is_term b_is_term
  refine w_run ?_
  walk_at "wp"
  refine is_int_ok.mono ?_
  rintro _ _ ⟨rfl, rfl⟩
  walk_at "wp"
  refine w_all (fun i x hx => ?_) ?_
  · obtain ⟨y, q, hy, hq, rfl⟩ := zpL_at hx
    obtain ⟨p, hp, rfl⟩ := map_at hy
    obtain ⟨s, hs, rfl⟩ := map_at hq
    refine ⟨_, rfl, ?_⟩
    walk_at "wp"
    exact is_from_ok (h.ps i p s hp hs)
  walk_at "wp"
  refine (is_from_ok hn).mono ?_
  rintro _ _ ⟨rfl, rfl⟩
  exact ⟨rfl, rfl⟩
theorem are_sums_ok {S : Sto} {z : List Int} {nb many : Int} {vs : List (List Tm)} (hm : (vs.length : Int) = many) (h : ∀ s ∈ vs, s.length ≤ 12 ∧ ∀ t ∈ s, TmV z nb t) : Ret (m_are_sums [.tup (vs.map Sm.e), .int many, .lst (z.map ie), .int nb, .int 12] S) (Yes S) := by
  have hl1 : (vs.map Sm.e).length = vs.length := List.length_map ..
  unfold m_are_sums b_are_sums
  refine w_run ?_
  walk_at "wp"
  refine (loop_ret (fun k env S1 => S1 = S ∧ ∃ s5 : Sv, env = [.v (.tup (vs.map Sm.e)), .v (.int many), .v (.lst (z.map ie)), .v (.int nb), .v (.int 12), s5, .un]) _ 0 _ _ ⟨rfl, _, rfl⟩ ?_).mono ?_
  · rintro j x env S1 hx ⟨rfl, s5, rfl⟩
    obtain ⟨s, hs, rfl⟩ := map_at hx
    have hh := h s (List.mem_of_getElem? hs)
    have hl2 : (s.map Tm.e).length = s.length := List.length_map ..
    have hl3 := hh.1
    refine ⟨_, rfl, ?_⟩
    unfold Sm.e
    walk_at "wp"
    refine w_all (fun i x hx => ?_) ?_
    · obtain ⟨t, ht, rfl⟩ := map_at hx
      refine ⟨_, rfl, ?_⟩
      walk_at "wp"
      exact is_term_ok (hh.2 t (List.mem_of_getElem? ht))
    walk_at "wp"
    exact ⟨_, .inl rfl, rfl, _, rfl⟩
  · rintro _ S1 ⟨e, rfl, rfl, s5, rfl⟩
    walk_at "wp"
    exact ⟨rfl, rfl⟩
structure RuV (K : List Kd) (r : Ru) : Prop where
  nm : nameV r.nm = true
  kd : r.kd ∈ K.map (·.1)
  ch : ∀ c ∈ r.ch, c ∈ K.map (·.1)
  chl : r.ch.length ≤ 2
  nb : 0 ≤ r.nb ∧ r.nb ≤ 2
  vs : (r.vs.length : Int) = sz K r.kd
  sm : ∀ s ∈ r.vs, s.length ≤ 12 ∧ ∀ t ∈ s, TmV (r.ch.map (sz K)) r.nb t
theorem any_szl {K : List Kd} {c : Str} (h : c ∈ K.map (·.1)) : ((szl K).any fun p => decide (p.1 = c)) = true := by
  obtain ⟨k, hk, rfl⟩ := List.mem_map.mp h
  refine List.any_eq_true.mpr ⟨(k.1, .int k.2.length), List.mem_map.mpr ⟨k, hk, rfl⟩, ?_⟩
  exact decide_eq_true rfl
theorem is_rule_ok {S : Sto} {K : List Kd} {r : Ru} {kn : List Str} (h : RuV K r) (hn : r.nm ∉ kn) : Ret (m_is_rule [r.e, .lst (kn.map .str), dkOf (szl K)] S) (Yes S) := by
  have hl1 : (r.ch.map Vl.str).length = r.ch.length := List.length_map ..
  have hl2 := h.chl
  have hnb := h.nb
  unfold m_is_rule b_is_rule
  refine w_run ?_
  walk_at "wp"
  refine (is_name_ok h.nm).mono ?_
  rintro _ _ ⟨rfl, rfl⟩
  walk_at "wp"
  refine w_no (by rw [any_szl h.kd]; rfl) ?_
  walk_at "wp"
  refine w_all (fun i x hx => ?_) ?_
  · obtain ⟨c, hc, rfl⟩ := map_at hx
    refine ⟨_, rfl, ?_⟩
    walk_at "wp"
    rw [any_szl (h.ch c (List.mem_of_getElem? hc))]
    exact ⟨rfl, rfl⟩
  walk_at "wp"
  refine (is_from_ok hnb).mono ?_
  rintro _ _ ⟨rfl, rfl⟩
  walk_at "wp"
  refine ⟨_, sz_ix h.kd, ?_⟩
  walk_at "wp"
  refine comp_pure Vl.str (fun c => .int (sz K c)) r.ch (fun c hcc => ⟨_, rfl, ?_⟩) ?_
  · walk_at "wp"
    exact ⟨_, sz_ix (h.ch c hcc), rfl, rfl⟩
  walk_at "wp"
  have e1 : (r.ch.map fun c => Vl.int (sz K c)) = (r.ch.map (sz K)).map ie := by rw [List.map_map]; rfl
  rw [e1]
  refine (are_sums_ok h.vs h.sm).mono ?_
  rintro _ _ ⟨rfl, rfl⟩
  exact ⟨rfl, rfl⟩
theorem is_form_ok {S : Sto} {f : List Int} {m : Int} (h : (f.length : Int) = m + 1) : Ret (m_is_form [Fm.e f, .int m] S) (Yes S) := by
  have hl1 : (f.map ie).length = f.length := List.length_map ..
  unfold m_is_form b_is_form Fm.e
  refine w_run ?_
  walk_at "wp"
  refine w_all (fun i x hx => ?_) ?_
  · obtain ⟨t, ht, rfl⟩ := map_at hx
    refine ⟨_, rfl, ?_⟩
    walk_at "wp"
    exact is_int_ok
  walk_at "wp"
  exact ⟨rfl, rfl⟩
structure GV (w : Int) (K : List Kd) (R : List Ru) (top : Str) (A : List (List Int)) : Prop where
  w : 1 ≤ w ∧ w ≤ 64
  k : KdN K
  r1 : 1 ≤ R.length
  r2 : R.length ≤ 12
  rn : (R.map (·.nm)).Nodup
  r : ∀ r ∈ R, RuV K r
  t : top ∈ K.map (·.1)
  a1 : 1 ≤ A.length
  a2 : A.length ≤ 4
  a : ∀ f ∈ A, (f.length : Int) = sz K top + 1
theorem check_grammar_ok {S : Sto} {w : Int} {K : List Kd} {R : List Ru} {top : Str} {A : List (List Int)} {b1 b2 b3 : Bool} (hS : stOk S = true) (h : GV w K R top A) :
    Ret (m_check_grammar [.int w, sq b1 (K.map Kd.e), sq b2 (R.map Ru.e), .str top, sq b3 (A.map Fm.e)] S) fun _ S1 => S1 = S := by
  have hr1 := h.r1
  have hr2 := h.r2
  have ha1 := h.a1
  have ha2 := h.a2
  have hl1 : (R.map Ru.e).length = R.length := List.length_map ..
  have hl2 : (A.map Fm.e).length = A.length := List.length_map ..
  unfold m_check_grammar b_check_grammar
  refine w_run ?_
  walk_at "wp"
  refine (is_from_ok h.w).mono ?_
  rintro _ _ ⟨rfl, rfl⟩
  walk_at "wp"
  refine (check_kinds_ok (by cases b1; exact .inl rfl; exact .inr rfl) h.k).mono ?_
  rintro _ _ rfl
  walk_at "wp"
  refine comp_pure Kd.e (fun k => .tup [.str k.1, .int k.2.length]) K (fun k _ => ⟨_, rfl, ?_⟩) ?_
  · walk_at "wp"
    rw [List.length_map]
    exact ⟨rfl, rfl⟩
  walk_at "wp"
  refine ⟨_, f_szl h.k.nd, ?_⟩
  walk_at "wp"
  rw [isiQ]
  walk_at "wp"
  rename_i S
  refine (loop_ret (fun k env S1 => S1 = S ∧ ∃ s7 s8 : Sv, env = [.v (.int w), .v (sq b1 (K.map Kd.e)), .v (sq b2 (R.map Ru.e)), .v (.str top), .v (sq b3 (A.map Fm.e)), .v (dkOf (szl K)), .ow (.lst (((R.take k).map (·.nm)).map .str)), s7, s8, .un, .un, .un]) _ 0 _ _ ⟨rfl, _, _, rfl⟩ ?_).mono ?_
  · rintro j x env S1 hx ⟨rfl, s7, s8, rfl⟩
    obtain ⟨y, hy, rfl⟩ := enL_at hx
    obtain ⟨r, hr, rfl⟩ := map_at hy
    have hm := List.mem_of_getElem? hr
    have hj := (List.getElem?_eq_some_iff.mp hr).1
    have hn : r.nm ∉ (R.take (0 + j)).map (·.nm) := fun z => by
      rw [Nat.zero_add, List.map_take] at z
      obtain ⟨i, hi⟩ := List.getElem?_of_mem z
      have hil := (List.getElem?_eq_some_iff.mp hi).1
      rw [List.length_take, List.length_map] at hil
      rw [List.getElem?_take_of_lt (by omega)] at hi
      have hkk : (R.map (·.nm))[j]? = some r.nm := by rw [List.getElem?_map, hr]; rfl
      have := (List.getElem?_inj (by rw [List.length_map]; omega) h.rn).mp (hi.trans hkk.symm)
      omega
    refine ⟨_, rfl, ?_⟩
    walk_at "wp"
    refine w_callL rfl ?_
    walk_at "wp"
    refine (is_rule_ok (h.r r hm) hn).mono ?_
    rintro _ _ ⟨rfl, rfl⟩
    refine ⟨rfl, hS, ?_⟩
    walk_at "wp"
    refine ⟨by simp; omega, _, .inl rfl, rfl, .v (.int j), .v r.e, ?_⟩
    show [Sv.v (.int w), .v (sq b1 (K.map Kd.e)), .v (sq b2 (R.map Ru.e)), .v (.str top), .v (sq b3 (A.map Fm.e)), .v (dkOf (szl K)), Sv.ow (.lst (((R.take (0 + j)).map (·.nm)).map Vl.str ++ [.str r.nm])), .v (.int j), .v r.e, .un, .un, .un] = _
    rw [List.take_succ, show 0 + j = j from Nat.zero_add j, hr]
    simp
  · rintro _ S1 ⟨e, rfl, rfl, s7, s8, rfl⟩
    walk_at "wp"
    refine w_no (by rw [any_szl h.t]; rfl) ?_
    walk_at "wp"
    rw [isiQ]
    walk_at "wp"
    refine (loop_ret (fun k env S2 => S2 = S1 ∧ ∃ s6 s7 s9 : Sv, env = [.v (.int w), .v (sq b1 (K.map Kd.e)), .v (sq b2 (R.map Ru.e)), .v (.str top), .v (sq b3 (A.map Fm.e)), .v (dkOf (szl K)), s6, s7, s8, s9, .un, .un]) _ 0 _ _ ⟨rfl, _, _, _, rfl⟩ ?_).mono ?_
    · rintro j x env S1 hx ⟨rfl, s6, s7, s9, rfl⟩
      obtain ⟨y, hy, rfl⟩ := enL_at hx
      obtain ⟨f, hf, rfl⟩ := map_at hy
      refine ⟨_, rfl, ?_⟩
      walk_at "wp"
      refine ⟨_, sz_ix h.t, ?_⟩
      walk_at "wp"
      refine (is_form_ok (h.a f (List.mem_of_getElem? hf))).mono ?_
      rintro _ _ ⟨rfl, rfl⟩
      walk_at "wp"
      exact ⟨_, .inl rfl, rfl, _, _, _, rfl⟩
    · rintro _ S1 ⟨e, rfl, rfl, _⟩
      rfl
theorem reduced_sums_ok {S : Sto} {w : Int} {vs : List (List Tm)} (hw : 1 ≤ w ∧ w ≤ 64) (hl : vs.length < 1000) : Ret (m_reduced_sums [.tup (vs.map Sm.e), .int (1 * 2 ^ w.toNat)] S) fun v S1 => v = .tup ((vs.map (redS w)).map Sm.e) ∧ S1 = S := by
  have hp := pow_le hw
  unfold m_reduced_sums b_reduced_sums
  refine w_run ?_
  walk_at "wp"
  refine (loop_ret (fun k env S1 => S1 = S ∧ ∃ s3 : Sv, env = [.v (.tup (vs.map Sm.e)), .v (.int (1 * 2 ^ w.toNat)), .ow (.lst (((vs.take k).map (redS w)).map Sm.e)), s3, .un, .un, .un]) _ 0 _ _ ⟨rfl, _, rfl⟩ ?_).mono ?_
  · rintro j x env S1 hx ⟨rfl, s3, rfl⟩
    obtain ⟨s, hs, rfl⟩ := map_at hx
    have hj := (List.getElem?_eq_some_iff.mp hs).1
    refine ⟨_, rfl, ?_⟩
    walk_at "wp"
    refine comp_pure Tm.e (fun t => (red w t).e) s (fun t _ => ⟨_, rfl, ?_⟩) ?_
    · walk_at "wp"
      refine ⟨?_, rfl⟩
      unfold red Tm.e
      simp only [Int.one_mul]
    walk_at "wp"
    refine ⟨by simp; omega, _, .inl rfl, rfl, .v (Sm.e s), ?_⟩
    show [Sv.v (.tup (vs.map Sm.e)), .v (.int (1 * 2 ^ w.toNat)), Sv.ow (.lst (((vs.take (0 + j)).map (redS w)).map Sm.e ++ [.tup (s.map fun t => (red w t).e)])), .v (Sm.e s), .un, .un, .un] = _
    rw [List.take_succ, show 0 + j = j from Nat.zero_add j, hs]
    simp [Sm.e, redS, List.map_map, Function.comp_def]
  · rintro _ S1 ⟨e, rfl, rfl, s3, rfl⟩
    walk_at "wp"
    rw [List.length_map, Nat.zero_add, List.take_length]
    exact ⟨rfl, rfl⟩
def redF (w : Int) (f : List Int) : List Int := f.map fun x => x % 2 ^ w.toNat
theorem reduced_ok {S : Sto} {w : Int} {f : List Int} (hw : 1 ≤ w ∧ w ≤ 64) : Ret (m_reduced [Fm.e f, .int (1 * 2 ^ w.toNat)] S) fun v S1 => v = Fm.e (redF w f) ∧ S1 = S := by
  have hp := pow_le hw
  unfold m_reduced b_reduced Fm.e
  refine w_run ?_
  walk_at "wp"
  refine comp_pure ie (fun x => .int (x % 2 ^ w.toNat)) f (fun t _ => ⟨_, rfl, ?_⟩) ?_
  · walk_at "wp"
    rw [Int.one_mul]
    exact ⟨rfl, rfl⟩
  walk_at "wp"
  refine ⟨?_, rfl⟩
  unfold redF
  rw [List.map_map]
  rfl
def gfn : List Str := ["width", "kinds", "rules", "top", "answers"]
def Gr (w : Int) (K : List Kd) (R : List Ru) (top : Str) (A : List (List Int)) : Vl := .ins 0 gfn [.int w, .tup (K.map Kd.e), .tup (R.map Ru.e), .str top, .tup (A.map Fm.e)]
theorem init_ok {S : Sto} {w : Int} {K : List Kd} {R : List Ru} {top : Str} {A : List (List Int)} {b1 b2 b3 : Bool} (hS : stOk S = true) (h : GV w K R top A) :
    Ret (m_Grammar___init__ 0 [.int w, sq b1 (K.map Kd.e), sq b2 (R.map Ru.e), .str top, sq b3 (A.map Fm.e)] S) fun v S1 => v = Gr w K (R.map (redR w)) top (A.map (redF w)) ∧ S1 = S := by
  have hw := h.w
  unfold m_Grammar___init__ b_Grammar___init__
  refine w_init ?_
  walk_at "wp"
  refine (check_grammar_ok hS h).mono ?_
  rintro _ _ rfl
  walk_at "wp"
  refine ⟨_, _, _, ["width"], [.int w], rfl, rfl, by decide, ?_⟩
  walk_at "wp"
  refine ⟨_, _, _, ["width", "kinds"], [.int w, .tup (K.map Kd.e)], rfl, rfl, by decide, ?_⟩
  walk_at "wp"
  rename_i S
  refine comp_pure Ru.e (fun r => (redR w r).e) R (fun r hr => ⟨_, rfl, ?_⟩) ?_
  · have hv := (h.r r hr).vs
    have hb := sz_bd (fun k hk => (h.k.at1 k hk).2) (h.r r hr).kd
    walk_at "wp"
    refine (reduced_sums_ok hw (by omega)).mono ?_
    rintro _ _ ⟨rfl, rfl⟩
    walk_at "wp"
    exact ⟨rfl, rfl⟩
  walk_at "wp"
  refine ⟨_, _, _, ["width", "kinds", "rules"], [.int w, .tup (K.map Kd.e), .tup (R.map fun r => (redR w r).e)], rfl, rfl, by decide, ?_⟩
  walk_at "wp"
  refine ⟨_, _, _, ["width", "kinds", "rules", "top"], [.int w, .tup (K.map Kd.e), .tup (R.map fun r => (redR w r).e), .str top], rfl, rfl, by decide, ?_⟩
  walk_at "wp"
  refine comp_pure Fm.e (fun f => Fm.e (redF w f)) A (fun f hf => ⟨_, rfl, ?_⟩) ?_
  · walk_at "wp"
    exact reduced_ok hw
  walk_at "wp"
  refine ⟨_, _, _, gfn, [.int w, .tup (K.map Kd.e), .tup (R.map fun r => (redR w r).e), .str top, .tup (A.map fun f => Fm.e (redF w f))], rfl, rfl, by decide, ?_⟩
  refine ⟨_, _, rfl, ?_, rfl⟩
  unfold Gr
  rw [List.map_map, List.map_map]
  rfl
def GrT (w : Int) (K : List Kd) (R : List Ru) (top : Str) (A : List (List Int)) : Vl := .tup [.int w, .tup (K.map Kd.e), .tup (R.map Ru.e), .str top, .tup (A.map Fm.e)]
theorem abc_lt : ∀ c ∈ abc.cps.toList, c < 0x110000 := by decide +kernel
theorem name_str {s : Str} (h : nameV s = true) : strB s = true := by
  unfold nameV at h
  simp only [Bool.and_eq_true, decide_eq_true_eq, List.all_eq_true] at h
  unfold strB
  rw [← Array.all_toList]
  exact List.all_eq_true.mpr fun c hc => decide_eq_true (abc_lt c (h.2 c hc))
theorem GV.str {w : Int} {K : List Kd} {R : List Ru} {top : Str} {A : List (List Int)} (h : GV w K R top A) {s : Str} (hs : s ∈ K.map (·.1)) : strB s = true := by
  obtain ⟨k, hk, rfl⟩ := List.mem_map.mp hs
  exact name_str (h.k.nm k hk)
theorem GV.okD {w : Int} {K : List Kd} {R : List Ru} {top : Str} {A : List (List Int)} (h : GV w K R top A) : Dm.okD (GrT w K (R.map (redR w)) top (A.map (redF w))) = true := by
  have h1 : (K.map Kd.e).all (okN 58) = true := all_map Kd.e fun k hk => okKd 55 (name_str (h.k.nm k hk)) fun s hs => name_str (h.k.atn k hk s hs)
  have h2 : ((R.map (redR w)).map Ru.e).all (okN 58) = true := all_map Ru.e fun r hr => by
    obtain ⟨q, hq, rfl⟩ := List.mem_map.mp hr
    have v := h.r q hq
    exact okRu 52 (name_str v.nm) (h.str v.kd) fun s hs => h.str (v.ch s hs)
  have h3 : ((A.map (redF w)).map Fm.e).all (okN 58) = true := all_map Fm.e fun f _ => all_map ie fun _ _ => rfl
  show ([Vl.int w, .tup (K.map Kd.e), .tup ((R.map (redR w)).map Ru.e), .str top, .tup ((A.map (redF w)).map Fm.e)].all (okN 59)) = true
  simp only [List.all_cons, List.all_nil, Bool.and_true]
  show (true && ((K.map Kd.e).all (okN 58) && (((R.map (redR w)).map Ru.e).all (okN 58) && (strB top && ((A.map (redF w)).map Fm.e).all (okN 58))))) = true
  rw [h1, h2, h3, h.str h.t]
  rfl
theorem nbStrs (l : List Str) : nbBs (l.map Vl.str) = true := nbBs_map Vl.str (fun _ => rfl) l
theorem nbKd (k : Kd) : nbB k.e = true := by
  show (true && (nbBs (k.2.map Vl.str) && true)) = true
  rw [nbStrs]
  rfl
theorem nbTm (t : Tm) : nbB t.e = true := by
  show (true && (nbBs (t.ps.map ie) && (true && true))) = true
  rw [nbBs_map ie (fun _ => rfl)]
  rfl
theorem nbSm (s : List Tm) : nbB (Sm.e s) = true := nbBs_map Tm.e nbTm s
theorem nbRu (r : Ru) : nbB r.e = true := by
  show (true && (true && (nbBs (r.ch.map Vl.str) && (true && (nbBs (r.vs.map Sm.e) && true))))) = true
  rw [nbStrs, nbBs_map Sm.e nbSm]
  rfl
theorem nbFm (f : List Int) : nbB (Fm.e f) = true := nbBs_map ie (fun _ => rfl) f
theorem nbGr {w : Int} {K : List Kd} {R : List Ru} {top : Str} {A : List (List Int)} : nbB (GrT w K R top A) = true := by
  show (true && (nbBs (K.map Kd.e) && (nbBs (R.map Ru.e) && (true && (nbBs (A.map Fm.e) && true))))) = true
  rw [nbBs_map Kd.e nbKd, nbBs_map Ru.e nbRu, nbBs_map Fm.e nbFm]
  rfl
theorem nlKd (k : Kd) : nlB k.e = true := by
  show (true && (nlBs (k.2.map Vl.str) && true)) = true
  rw [nlBs_map Vl.str (fun _ => rfl)]
  rfl
theorem nlTm (t : Tm) : nlB t.e = true := by
  show (true && (nlBs (t.ps.map ie) && (true && true))) = true
  rw [nlBs_map ie (fun _ => rfl)]
  rfl
theorem nlSm (s : List Tm) : nlB (Sm.e s) = true := nlBs_map Tm.e nlTm s
theorem nlRu (r : Ru) : nlB r.e = true := by
  show (true && (true && (nlBs (r.ch.map Vl.str) && (true && (nlBs (r.vs.map Sm.e) && true))))) = true
  rw [nlBs_map Vl.str (fun _ => rfl), nlBs_map Sm.e nlSm]
  rfl
theorem nlFm (f : List Int) : nlB (Fm.e f) = true := nlBs_map ie (fun _ => rfl) f
theorem nlGr {w : Int} {K : List Kd} {R : List Ru} {top : Str} {A : List (List Int)} : nlO (Gr w K R top A) = true := by
  show (true && (nlBs (K.map Kd.e) && (nlBs (R.map Ru.e) && (true && (nlBs (A.map Fm.e) && true))))) = true
  rw [nlBs_map Kd.e nlKd, nlBs_map Ru.e nlRu, nlBs_map Fm.e nlFm]
  rfl
theorem kn_name : ∀ s ∈ kn, nameV s = true := by decide +kernel
theorem pn_name : ∀ s ∈ pn, nameV s = true := by decide +kernel
theorem wn_name : ∀ s ∈ wn, nameV s = true := by decide +kernel
theorem pn_nd : pn.Nodup := by decide +kernel
theorem wn_nd : wn.Nodup := by decide +kernel
theorem KdV.n {K : List Kd} (h : KdV K) : KdN K where
  nd := h.ok.nd
  l0 := h.l0
  l1 := h.l1
  nm := fun k hk => kn_name _ (h.mem (List.mem_map_of_mem hk))
  at1 := fun k hk => ⟨h.ok.at1 k hk, h.ok.at3 k hk⟩
  atn := fun k hk s hs => by
    obtain ⟨j, _, _, e⟩ := h.at_ k hk
    rw [e] at hs
    exact pn_name s (List.mem_of_mem_take hs)
  atd := fun k hk => by
    obtain ⟨j, _, _, e⟩ := h.at_ k hk
    rw [e]
    exact take_nd pn_nd
theorem RsOk.v {w : Int} {K : List Kd} {R : List Ru} (h : RsOk w K R) : ∀ r ∈ R, RuV K r := fun r hr => by
  have v := h.ok r hr
  have hn : r.nm ∈ wn := by
    have : r.nm ∈ R.map (·.nm) := List.mem_map_of_mem hr
    rw [h.nm] at this
    exact List.mem_of_mem_take this
  exact ⟨wn_name _ hn, v.kd, v.ch, v.chl, v.nb, v.vs, fun s hs => ⟨(v.sm s hs).1, fun t ht => ⟨((v.sm s hs).2 t ht).len, ((v.sm s hs).2 t ht).ps, ((v.sm s hs).2 t ht).n⟩⟩⟩
theorem RsOk.red {w : Int} {K : List Kd} {R : List Ru} (h : RsOk w K R) : R.map (redR w) = R := by
  have e : ∀ r ∈ R, redR w r = r := fun r hr => by
    have v := h.ok r hr
    have e2 : r.vs.map (redS w) = r.vs := by
      conv => rhs; rw [← List.map_id r.vs]
      refine List.map_congr_left fun s hs => ?_
      conv => rhs; rw [id, ← List.map_id s]
      refine List.map_congr_left fun t ht => ?_
      have f := ((v.sm s hs).2 t ht).f
      unfold G06.red
      rw [Int.emod_eq_of_lt f.1 f.2]
      rfl
    unfold redR
    rw [e2]
  conv => rhs; rw [← List.map_id R]
  exact List.map_congr_left e
theorem fm_red {w : Int} {k : Nat} {A : List (List Int)} (h : ∀ f ∈ A, FmOk w k f) : A.map (redF w) = A := by
  conv => rhs; rw [← List.map_id A]
  refine List.map_congr_left fun f hf => ?_
  conv => rhs; rw [id, ← List.map_id f]
  refine List.map_congr_left fun x hx => ?_
  have := (h f hf).2 x hx
  exact Int.emod_eq_of_lt this.1 this.2
/-! validity does not look at the factors -/
theorem gv_of {w : Int} {K : List Kd} {R : List Ru} {top : Str} {A : List (List Int)} (hw : 1 ≤ w ∧ w ≤ 64) (hK : KdV K) (hR : RsOk w K R) (r1 : 1 ≤ R.length) (r2 : R.length ≤ 12) (ht : top ∈ K.map (·.1)) (a1 : 1 ≤ A.length) (a2 : A.length ≤ 4) (hA : ∀ f ∈ A, FmOk w (sz K top + 1).toNat f) : GV w K R top A := by
  have hb := sz_bd hK.ok.at3 ht
  exact ⟨hw, hK.n, r1, r2, by rw [hR.nm]; exact take_nd wn_nd, hR.v, ht, a1, a2, fun f hf => by rw [(hA f hf).1]; omega⟩
/-! ### cuts -/
structure GR (w : Int) (K : List Kd) (R : List Ru) (top : Str) (A : List (List Int)) : Prop where
  v : GV w K R top A
  r : R.map (redR w) = R
  a : A.map (redF w) = A
theorem GR.okD {w : Int} {K : List Kd} {R : List Ru} {top : Str} {A : List (List Int)} (h : GR w K R top A) : Dm.okD (GrT w K R top A) = true := by
  have := h.v.okD
  rw [h.r, h.a] at this
  exact this
theorem mk_ok {S : Sto} {w : Int} {K : List Kd} {R : List Ru} {top : Str} {A : List (List Int)} {b1 b2 b3 : Bool} (hS : stOk S = true) (h : GR w K R top A) :
    Ret (m_Grammar___init__ 0 [.int w, sq b1 (K.map Kd.e), sq b2 (R.map Ru.e), .str top, sq b3 (A.map Fm.e)] S) fun v S1 => v = Gr w K R top A ∧ S1 = S := by
  have := init_ok (b1 := b1) (b2 := b2) (b3 := b3) hS h.v
  rw [h.r, h.a] at this
  exact this
theorem eqv_str {a b : Str} : (Vl.str a).eqv (.str b) = decide (a = b) := by
  show (a == b) = decide (a = b)
  by_cases h : a = b
  · subst h
    simp
  · simp [h]
theorem sz_at {K : List Kd} (hd : (K.map (·.1)).Nodup) {k : Kd} (hk : k ∈ K) : sz K k.1 = k.2.length := by
  have : (K.find? fun q => decide (q.1 = k.1)) = some k := by
    induction K with
    | nil => cases hk
    | cons q K ih =>
      rw [List.map_cons, List.nodup_cons] at hd
      rcases List.mem_cons.mp hk with rfl | hk
      · simp
      · have : q.1 ≠ k.1 := fun e => hd.1 (by rw [e]; exact List.mem_map_of_mem hk)
        rw [List.find?_cons, decide_eq_false this]
        exact ih hd.2 hk
  unfold sz
  rw [this]
  rfl
end G06

set_option Elab.async false
set_option linter.all false
set_option maxRecDepth 100000
set_option autoImplicit false
set_option maxHeartbeats 2000000
namespace G06
open PySem PySem.Spec L2 Dm
local macro_rules | `(tactic| walk_at "wp") => `(tactic| (repeat (first | ((with_reducible apply w_var); exact rfl) | ((with_reducible apply w_varO); exact rfl) | ((with_reducible apply w_varL); exact rfl) | with_reducible refine w_c ?_ | with_reducible refine w_bin ?_ | with_reducible refine w_un ?_ | with_reducible refine w_cB ?_ | with_reducible refine w_tv ?_ | with_reducible refine w_cons ?_ | with_reducible refine w_nil ?_ | with_reducible refine w_tup ?_ | with_reducible refine w_lst ?_ | with_reducible refine w_call ?_ | with_reducible refine w_seqI ?_ | with_reducible refine w_rng2 ?_ | with_reducible refine w_rng1 ?_ | ((with_reducible apply w_comp); exact rfl) | with_reducible refine w_assoc ?_ | with_reducible refine w_qnil ?_ | with_reducible refine w_qset ?_ | with_reducible refine w_qown ?_ | with_reducible refine w_qret ?_ | with_reducible refine w_qif ?_ | ((with_reducible apply w_qapp); exact rfl) | with_reducible refine w_qunp ?_ | with_reducible refine w_qfor ?_ | with_reducible refine w_for ?_ | with_reducible refine w_nilS ?_ | with_reducible refine w_ret ?_ | with_reducible refine w_ifS ?_ | with_reducible refine w_set ?_ | ((with_reducible apply w_app); exact rfl) | with_reducible refine ⟨_, f_add, ?_⟩ | with_reducible refine ⟨_, f_neg, ?_⟩ | with_reducible refine ⟨_, f_neI, ?_⟩ | with_reducible refine ⟨_, f_eqI, ?_⟩ | with_reducible refine ⟨_, f_lenL, ?_⟩ | with_reducible refine ⟨_, f_lenT, ?_⟩ | with_reducible refine ⟨_, f_tupL, ?_⟩ | with_reducible refine ⟨_, f_tupT, ?_⟩ | with_reducible refine ⟨_, f_notInD, ?_⟩ | with_reducible refine ⟨_, f_notInT, ?_⟩ | with_reducible refine ⟨_, f_lenQ, ?_⟩ | with_reducible refine ⟨_, seqQ, ?_⟩ | with_reducible refine ⟨_, tupQ, ?_⟩ | with_reducible refine ⟨_, _, rfl, seqQ, ?_⟩ | with_reducible refine ⟨_, _, rfl, rfl, ?_⟩ | with_reducible refine ⟨_, _, _, rfl, rfl, ?_⟩ | with_reducible refine ⟨_, _, _, _, rfl, rfl, rfl, ?_⟩ | ((with_reducible refine ⟨_, f_pow ?_, ?_⟩); (first | omega | decide)) | ((with_reducible apply w_qparOO); exact ⟨Nat.le_of_ble_eq_true rfl, Nat.le_of_ble_eq_true rfl⟩) | ((with_reducible apply w_qfrz); exact rfl) | with_reducible refine ⟨_, f_notInL, ?_⟩ | with_reducible refine ⟨_, rfl, ?_⟩ | ((with_reducible refine ⟨_, f_lenS ?_, ?_⟩); omega) | with_reducible refine ret_ok.mpr ?_ | refine w_yes rfl ?_ | refine w_no rfl ?_ | ((with_reducible refine w_yes (decide_eq_true ?_) ?_); omega) | ((with_reducible refine w_no (decide_eq_false ?_) ?_); omega) | ((with_reducible refine w_nyes ?_ ?_); omega) | ((with_reducible refine w_nno ?_ ?_); omega))))
abbrev ne (p : Nat) : Vl := .int p
structure Stp where
  nm : Str
  pl : List Nat
  nb : List Int
def Stp.e (s : Stp) : Vl := .tup [.str s.nm, .tup (s.pl.map ne), .tup (s.nb.map ie)]
/-- the step s, behind steps of the kinds ks, by the rule r -/
structure StOk (R : List Ru) (ks : List Str) (s : Stp) (r : Ru) : Prop where
  mem : r ∈ R
  nm : r.nm = s.nm
  pl : s.pl.length = r.ch.length
  at_ : ∀ (j p : Nat) (c : Str), s.pl[j]? = some p → r.ch[j]? = some c → ks[p]? = some c
  nb : (s.nb.length : Int) = r.nb
  nbd : ∀ x ∈ s.nb, x.natAbs < 2 ^ 70
inductive TrOk (R : List Ru) : List Stp → List Str → Prop
  | nil : TrOk R [] []
  | snoc {T : List Stp} {ks : List Str} {s : Stp} {r : Ru} : TrOk R T ks → StOk R ks s r → TrOk R (T ++ [s]) (ks ++ [r.kd])
theorem TrOk.len {R : List Ru} {T : List Stp} {ks : List Str} (h : TrOk R T ks) : ks.length = T.length := by
  induction h with
  | nil => rfl
  | snoc _ _ ih => simp [ih]
def NoOw (s : Sv) : Prop := s = .un ∨ ∃ z, s = .v z
theorem rgI_map (n : Nat) : rgI 0 n = (List.range n).map ne := by
  refine List.ext_getElem? fun i => ?_
  by_cases h : i < n
  · rw [rgI_get h, List.getElem?_map, List.getElem?_range h]
    simp
  · rw [List.getElem?_eq_none (by rw [rgI_length]; omega), List.getElem?_eq_none (by simp; omega)]
theorem f_eqS {S : Sto} {a b : Str} (ha : strB a = true) (hb : strB b = true) : eqF S (.str a) (.str b) = some (.bl (decide (a = b))) := by
  have := f_eq (S := S) (x := .str a) (y := .str b) ha hb
  rw [this]
  show some (Vl.bl ((Vl.str a).eqv (.str b))) = _
  rw [eqv_str]
theorem f_neS {S : Sto} {a b : Str} (ha : strB a = true) (hb : strB b = true) : neF S (.str a) (.str b) = some (.bl (!decide (a = b))) := by
  have := f_ne (S := S) (x := .str a) (y := .str b) ha hb
  rw [this]
  show some (Vl.bl (!(Vl.str a).eqv (.str b))) = _
  rw [eqv_str]
theorem TrOk.kinds {R : List Ru} {T : List Stp} {ks : List Str} (h : TrOk R T ks) : ∀ k ∈ ks, ∃ r ∈ R, r.kd = k := by
  induction h with
  | nil => exact fun _ h => nomatch h
  | @snoc T ks s r _ hs ih =>
    intro k hk
    rcases List.mem_append.mp hk with hk | hk
    · exact ih k hk
    · exact ⟨r, hs.mem, (List.mem_singleton.mp hk).symm⟩
theorem GV.kstr {w : Int} {K : List Kd} {R : List Ru} {top : Str} {A : List (List Int)} (g : GV w K R top A) {T : List Stp} {ks : List Str} (h : TrOk R T ks) {k : Str} (hk : k ∈ ks) : strB k = true := by
  obtain ⟨r, hr, rfl⟩ := h.kinds k hk
  exact g.str (g.r r hr).kd
theorem grown_ok {S : Sto} {n : Nat} {w : Int} {K : List Kd} {R : List Ru} {top : Str} {A : List (List Int)} (h : Wl S n) (g : GV w K R top A) :
    Ret (m__law_grown [.ref n, .lst (R.map Ru.e), .int 30] S) fun v S1 => (∃ T ks, v = .tup [.lst (T.map Stp.e), .lst (ks.map .str)] ∧ TrOk R T ks ∧ T.length ≤ 30) ∧ Wl S1 n := by
  unfold m__law_grown b__law_grown
  refine w_run ?_
  walk_at "wp"
  refine ⟨by omega, ?_⟩
  refine (loop_ret (fun k env S => Wl S n ∧ ∃ (T : List Stp) (ks : List Str) (s5 s6 s7 s8 s9 s10 s11 s12 s13 s14 s15 : Sv), T.length ≤ k ∧ TrOk R T ks ∧ NoOw s12 ∧ env = [.v (.ref n), .v (.lst (R.map Ru.e)), .v (.int 30), .ow (.lst (T.map Stp.e)), .ow (.lst (ks.map .str)), s5, s6, s7, s8, s9, s10, s11, s12, s13, s14, s15, .un]) _ 0 _ _ ⟨h, [], [], _, _, _, _, _, _, _, _, _, _, _, Nat.le_refl _, .nil, .inl rfl, rfl⟩ ?_).mono ?_
  · rintro j x env S3 hx ⟨hW, T, ks, s5, s6, s7, s8, s9, s10, s11, s12, s13, s14, s15, hl, ho, h12, rfl⟩
    obtain ⟨hj, rfl⟩ := rgI_at hx
    have hj30 : j < 30 := hj
    have hkl := ho.len
    refine ⟨_, rfl, ?_⟩
    walk_at "wp"
    refine (one_ok hW (fun z => by have := g.r1; rw [List.map_eq_nil_iff.mp z] at this; simp at this) (by have := g.r2; simp; omega)).mono fun v S1 ⟨hm, hW⟩ => ?_
    obtain ⟨r, hr, rfl⟩ := List.mem_map.mp hm
    refine ⟨_, rfl, rfl, ?_⟩
    have rv := g.r r hr
    walk_at "wp"
    refine w_comp (env1 := [.v (.ref n), .v (.lst (R.map Ru.e)), .v (.int 30), .ow (.lst (T.map Stp.e)), .ow (.lst (ks.map .str)), .v (.int j), .v (.str r.nm), .v (.str r.kd), .v (.tup (r.ch.map .str)), .v (.int r.nb), .v (.tup (r.vs.map Sm.e)), s11, .un, s13, s14, s15, .un]) (by rcases h12 with rfl | ⟨z, rfl⟩ <;> rfl) ?_
    walk_at "wp"
    refine comp_flt Vl.str Vl.str (fun c => !decide (c ∈ ks)) r.ch (fun c hc => ⟨_, rfl, ?_, fun _ => ?_⟩) ?_
    · walk_at "wp"
      exact ⟨rfl, rfl⟩
    · walk_at "wp"
      exact ⟨rfl, rfl⟩
    walk_at "wp"
    rw [List.length_map]
    refine ⟨fun hz => ?_, fun _ => ?_⟩
    · have hall : ∀ c ∈ r.ch, c ∈ ks := fun c hc => by
        have z : (r.ch.filter fun c => !decide (c ∈ ks)).length = 0 := by
          have := of_decide_eq_true hz
          omega
        have := List.filter_eq_nil_iff.mp (List.eq_nil_of_length_eq_zero z) c hc
        simpa using this
      walk_at "wp"
      refine (loop_ret (fun k env S => Wl S n ∧ ∃ (P : List Nat) (s12 s13 : Sv), P.length = k ∧ (∀ (j p : Nat) (c : Str), P[j]? = some p → r.ch[j]? = some c → ks[p]? = some c) ∧ NoOw s12 ∧ env = [.v (.ref n), .v (.lst (R.map Ru.e)), .v (.int 30), .ow (.lst (T.map Stp.e)), .ow (.lst (ks.map .str)), .v (.int j), .v (.str r.nm), .v (.str r.kd), .v (.tup (r.ch.map .str)), .v (.int r.nb), .v (.tup (r.vs.map Sm.e)), .ow (.lst (P.map ne)), s12, s13, s14, s15, .un]) _ 0 _ _ ⟨hW, [], _, _, rfl, (fun j p c h => by simp at h), h12, rfl⟩ ?_).mono ?_
      · rintro i x env S5 hx ⟨hW, P, s12', s13', hPl, hP, h12', rfl⟩
        obtain ⟨c, hc, rfl⟩ := map_at hx
        have hcm := hall c (List.mem_of_getElem? hc)
        have hcs := g.kstr ho hcm
        refine ⟨_, rfl, ?_⟩
        walk_at "wp"
        rw [List.length_map]
        refine ⟨by omega, ?_⟩
        rw [Int.toNat_natCast, rgI_map]
        refine comp_flt ne ne (fun p => decide (ks[p]? = some c)) (List.range ks.length) (fun p hp => ⟨_, rfl, ?_, fun _ => ?_⟩) ?_
        · have hpl : p < ks.length := List.mem_range.mp hp
          walk_at "wp"
          refine ⟨.str ks[p], f_ixL (by rw [Dm.atI_nat, List.getElem?_map, List.getElem?_eq_getElem hpl]; rfl), ?_⟩
          walk_at "wp"
          refine ⟨_, f_eqS (g.kstr ho (List.getElem_mem hpl)) hcs, ?_⟩
          walk_at "wp"
          refine ⟨?_, rfl⟩
          rw [List.getElem?_eq_getElem hpl]
          simp
        · walk_at "wp"
          exact ⟨rfl, rfl⟩
        walk_at "wp"
        have hne : (List.range ks.length).filter (fun p => decide (ks[p]? = some c)) ≠ [] := fun z => by
          obtain ⟨p, hp⟩ := List.getElem?_of_mem hcm
          have := List.filter_eq_nil_iff.mp z p (List.mem_range.mpr (List.getElem?_eq_some_iff.mp hp).1)
          exact this (decide_eq_true hp)
        have hlen : ((List.range ks.length).filter fun p => decide (ks[p]? = some c)).length ≤ ks.length := by
          have := List.length_filter_le (fun p => decide (ks[p]? = some c)) (List.range ks.length)
          rwa [List.length_range] at this
        refine (one_ok hW (fun z => hne (List.map_eq_nil_iff.mp z)) (by rw [List.length_map]; omega)).mono fun v S6 ⟨hm, hW⟩ => ?_
        obtain ⟨p, hp, rfl⟩ := List.mem_map.mp hm
        have hpc := of_decide_eq_true (List.mem_filter.mp hp).2
        have hil := (List.getElem?_eq_some_iff.mp hc).1
        refine ⟨by rw [List.length_map]; have := rv.chl; omega, _, .inl rfl, hW, P ++ [p], _, _, by simp; omega, fun j q d hq hd => ?_, .inr ⟨_, rfl⟩, by rw [List.map_append]; rfl⟩
        by_cases hj2 : j < P.length
        · rw [List.getElem?_append_left hj2] at hq
          exact hP j q d hq hd
        · have e : j = P.length := by
            have := (List.getElem?_eq_some_iff.mp hq).1
            rw [List.length_append, List.length_singleton] at this
            omega
          subst e
          rw [List.getElem?_append_right (Nat.le_refl _), Nat.sub_self] at hq
          cases hq
          rw [hPl, Nat.zero_add, hc] at hd
          cases hd
          exact hpc
      · rintro _ S5 ⟨e, rfl, hW, P, s12', s13', hPl, hP, h12', rfl⟩
        rw [List.length_map, Nat.zero_add] at hPl
        have hb := rv.nb
        walk_at "wp"
        refine ⟨by omega, ?_⟩
        refine (loop_ret (fun k env S => Wl S n ∧ ∃ (N : List Int) (s15 : Sv), N.length = k ∧ (∀ x ∈ N, x.natAbs < 2 ^ 70) ∧ env = [.v (.ref n), .v (.lst (R.map Ru.e)), .v (.int 30), .ow (.lst (T.map Stp.e)), .ow (.lst (ks.map .str)), .v (.int j), .v (.str r.nm), .v (.str r.kd), .v (.tup (r.ch.map .str)), .v (.int r.nb), .v (.tup (r.vs.map Sm.e)), .ow (.lst (P.map ne)), s12', s13', .ow (.lst (N.map ie)), s15, .un]) _ 0 _ _ ⟨hW, [], _, rfl, (fun _ h => nomatch h), rfl⟩ ?_).mono ?_
        · rintro i x env S5 hx ⟨hW, N, s15', hNl, hN, rfl⟩
          obtain ⟨hi, rfl⟩ := rgI_at hx
          refine ⟨_, rfl, ?_⟩
          walk_at "wp"
          refine (draw_ok hW (by decide) (by decide)).mono fun v S1 ⟨⟨q, hv, q0, q1⟩, hW⟩ => ?_
          subst hv
          have q2 : q < 1000000 := q1
          walk_at "wp"
          refine (one_ok hW (by simp) (by simp)).mono fun v S1 ⟨hm, hW⟩ => ?_
          have hv : ∃ z : Int, v = .int z ∧ z.natAbs < 2 ^ 70 := by
            simp at hm
            rcases hm with rfl | rfl | rfl | rfl | rfl | rfl
            · exact ⟨_, rfl, by decide⟩
            · exact ⟨_, rfl, by decide⟩
            · exact ⟨_, rfl, by decide⟩
            · exact ⟨_, rfl, by decide⟩
            · exact ⟨_, rfl, by decide⟩
            · exact ⟨_, rfl, by omega⟩
          obtain ⟨z, rfl, hz⟩ := hv
          refine ⟨by rw [List.length_map]; omega, _, .inl rfl, hW, N ++ [z], _, by simp; omega, fun y hy => ?_, by rw [List.map_append]; rfl⟩
          rcases List.mem_append.mp hy with hy | hy
          · exact hN y hy
          · rw [List.mem_singleton.mp hy]
            exact hz
        · rintro _ S5 ⟨e, rfl, hW, N, s15', hNl, hN, rfl⟩
          rw [rgI_length, Nat.zero_add] at hNl
          walk_at "wp"
          refine ⟨by rw [List.length_map]; omega, ?_⟩
          walk_at "wp"
          refine ⟨by rw [List.length_map]; omega, _, .inl rfl, hW, T ++ [⟨r.nm, P, N⟩], ks ++ [r.kd], _, _, _, _, _, _, _, _, _, _, _, by simp; omega, .snoc ho ⟨hr, rfl, hPl, hP, (by show (N.length : Int) = r.nb; omega), hN⟩, h12', (by rw [List.map_append, List.map_append]; rfl)⟩
    · walk_at "wp"
      exact ⟨_, .inl rfl, hW, T, ks, _, _, _, _, _, _, _, _, _, _, _, by omega, ho, h12, rfl⟩
  · rintro _ S4 ⟨e, rfl, hW, T, ks, s5, s6, s7, s8, s9, s10, s11, s12, s13, s14, s15, hl, ho, h12, rfl⟩
    walk_at "wp"
    rw [rgI_length] at hl
    exact ⟨⟨T, ks, rfl, ho, by have : (30 : Int).toNat = 30 := rfl; omega⟩, hW⟩
end G06

set_option Elab.async false
set_option linter.all false
set_option maxRecDepth 100000
set_option autoImplicit false
set_option maxHeartbeats 2000000
set_option exponentiation.threshold 400
namespace G06
open PySem PySem.Spec L2 Dm
local macro_rules | `(tactic| walk_at "wp") => `(tactic| (repeat (first | ((with_reducible apply w_var); exact rfl) | ((with_reducible apply w_varO); exact rfl) | ((with_reducible apply w_varL); exact rfl) | with_reducible refine w_c ?_ | with_reducible refine w_bin ?_ | with_reducible refine w_cB ?_ | with_reducible refine w_tv ?_ | with_reducible refine w_cons ?_ | with_reducible refine w_nil ?_ | with_reducible refine w_lst ?_ | with_reducible refine w_seqI ?_ | with_reducible refine w_enI ?_ | with_reducible refine w_assoc ?_ | with_reducible refine w_qnil ?_ | with_reducible refine w_qset ?_ | with_reducible refine w_qown ?_ | with_reducible refine w_qret ?_ | with_reducible refine w_qif ?_ | ((with_reducible apply w_qapp); exact rfl) | with_reducible refine w_qfor ?_ | with_reducible refine w_for ?_ | with_reducible refine w_nilS ?_ | with_reducible refine w_ret ?_ | with_reducible refine w_ifS ?_ | with_reducible refine w_set ?_ | ((with_reducible apply w_app); exact rfl) | with_reducible refine ⟨_, f_add, ?_⟩ | with_reducible refine ⟨_, f_cmp, ?_⟩ | with_reducible refine ⟨_, f_int, ?_⟩ | with_reducible refine ⟨_, f_intB, ?_⟩ | with_reducible refine ⟨_, f_tupL, ?_⟩ | with_reducible refine ⟨_, f_tupT, ?_⟩ | with_reducible refine ⟨_, seqQ, ?_⟩ | with_reducible refine ⟨_, tupQ, ?_⟩ | with_reducible refine ⟨_, _, rfl, seqQ, ?_⟩ | with_reducible refine ⟨_, _, rfl, rfl, ?_⟩ | with_reducible refine ⟨_, _, _, rfl, rfl, ?_⟩ | with_reducible refine ⟨_, _, _, _, rfl, rfl, rfl, ?_⟩ | ((with_reducible refine ⟨_, f_mod ?_, ?_⟩); (first | assumption | omega | decide)) | ((with_reducible refine ⟨_, f_mul ?_, ?_⟩); omega) | ((with_reducible refine ⟨_, f_shl ?_, ?_⟩); (first | omega | decide)) | with_reducible refine ⟨_, rfl, ?_⟩ | with_reducible refine ret_ok.mpr ?_ | refine w_yes rfl ?_ | refine w_no rfl ?_ | ((with_reducible refine w_yes (decide_eq_true ?_) ?_); omega) | ((with_reducible refine w_no (decide_eq_false ?_) ?_); omega) | ((with_reducible refine w_nyes ?_ ?_); omega) | ((with_reducible refine w_nno ?_ ?_); omega))))
/-! ### what sums mean -/
def pkF (f : Int) (zs : List (Int × List Int)) : Int := zs.foldl (fun a z => if z.1 < 0 then a else a * z.2.getD z.1.toNat 0) f
def nv (nb : List Int) (n : Int) : Int := if n < 0 then 1 else nb.getD n.toNat 0
def tmV (sts : List (List Int)) (nb : List Int) (t : Tm) : Int := pkF t.f (t.ps.zip sts) * nv nb t.n
def smV (w : Int) (sts : List (List Int)) (nb : List Int) (s : List Tm) : Int := (s.map (tmV sts nb)).sum % 2 ^ w.toNat
def mkV (w : Int) (sts : List (List Int)) (nb : List Int) (vs : List (List Tm)) : List Int := vs.map (smV w sts nb)
structure SOk (w : Int) (z : List Int) (sts : List (List Int)) : Prop where
  len : sts.length = z.length
  l2 : sts.length ≤ 2
  at_ : ∀ (i : Nat) (s : List Int) (k : Int), sts[i]? = some s → z[i]? = some k → (s.length : Int) = k
  bd : ∀ s ∈ sts, ∀ x ∈ s, 0 ≤ x ∧ x < 2 ^ w.toNat
theorem zip_at {α β : Type} {xs : List α} {ys : List β} {i : Nat} {x : α} {y : β} (h1 : xs[i]? = some x) (h2 : ys[i]? = some y) : (xs.zip ys)[i]? = some (x, y) := by
  rw [List.getElem?_zip_eq_some]
  exact ⟨h1, h2⟩
theorem take_next {α : Type} {l : List α} {k : Nat} {t : α} (h : l[k]? = some t) : l.take (k + 1) = l.take k ++ [t] := by
  rw [List.take_succ, h]
  rfl
theorem pkF_snoc (f : Int) (zs : List (Int × List Int)) (z : Int × List Int) : pkF f (zs ++ [z]) = if z.1 < 0 then pkF f zs else pkF f zs * z.2.getD z.1.toNat 0 := by
  unfold pkF
  rw [List.foldl_append]
  rfl
theorem pkF_mul (c : Int) : ∀ (zs : List (Int × List Int)) (f : Int), pkF (f * c) zs = pkF f zs * c
  | [], f => rfl
  | z :: zs, f => by
    show pkF (if z.1 < 0 then f * c else f * c * z.2.getD z.1.toNat 0) zs = pkF (if z.1 < 0 then f else f * z.2.getD z.1.toNat 0) zs * c
    by_cases h : z.1 < 0
    · rw [if_pos h, if_pos h]
      exact pkF_mul c zs f
    · rw [if_neg h, if_neg h, Int.mul_assoc, Int.mul_comm c, ← Int.mul_assoc]
      exact pkF_mul c zs _
theorem getD_bd {w : Int} {s : List Int} {k : Nat} (hs : ∀ x ∈ s, 0 ≤ x ∧ x < 2 ^ w.toNat) : 0 ≤ s.getD k 0 ∧ s.getD k 0 < 2 ^ w.toNat := by
  rw [List.getD_eq_getElem?_getD]
  cases e : s[k]? with
  | none => exact ⟨Int.le_refl 0, Int.pow_pos (by decide)⟩
  | some x => exact hs x (List.mem_of_getElem? e)
theorem pkF_bd {w : Int} (hw : 1 ≤ w ∧ w ≤ 64) : ∀ (zs : List (Int × List Int)) (f : Int) (B : Nat), (∀ z ∈ zs, ∀ x ∈ z.2, 0 ≤ x ∧ x < 2 ^ w.toNat) → f.natAbs ≤ B → (pkF f zs).natAbs ≤ B * (2 ^ 64) ^ zs.length
  | [], f, B, _, h => by simpa [pkF] using h
  | z :: zs, f, B, hz, h => by
    have e : B * (2 ^ 64) ^ (z :: zs).length = B * 2 ^ 64 * (2 ^ 64) ^ zs.length := by
      rw [List.length_cons, Nat.pow_succ, Nat.mul_comm ((2 ^ 64) ^ zs.length), Nat.mul_assoc]
    rw [e]
    refine pkF_bd hw zs _ _ (fun y hy => hz y (List.mem_cons_of_mem _ hy)) ?_
    have hp := pow_le hw
    have hg := getD_bd (k := z.1.toNat) (hz z (List.mem_cons_self ..))
    dsimp only
    split
    · exact Nat.le_trans h (Nat.le_mul_of_pos_right _ (by decide))
    · rw [Int.natAbs_mul]
      exact Nat.mul_le_mul h (by omega)
theorem sum_next {s : List Tm} {k : Nat} {t : Tm} (g : Tm → Int) (h : s[k]? = some t) : ((s.take (k + 1)).map g).sum = ((s.take k).map g).sum + g t := by
  rw [take_next h, List.map_append, List.sum_append]
  simp
/-- the terms of a rule's sums, with their factors -/
structure TmB (w : Int) (z : List Int) (nb : Int) (t : Tm) : Prop where
  v : TmV z nb t
  f : 0 ≤ t.f ∧ t.f < 2 ^ w.toNat
theorem tup_at {l : List Int} {k : Int} (h0 : 0 ≤ k) (h1 : k < l.length) : atI (l.map ie) k = some (.int (l.getD k.toNat 0)) := by
  obtain ⟨m, rfl⟩ := Int.eq_ofNat_of_zero_le h0
  have hm : m < l.length := by omega
  rw [Dm.atI_nat, List.getElem?_map, List.getElem?_eq_getElem hm, List.getD_eq_getElem?_getD]
  show _ = some (Vl.int ((l[(m : Int).toNat]?).getD 0))
  rw [Int.toNat_natCast, List.getElem?_eq_getElem hm]
  rfl
theorem lst_at {α : Type} {g : α → Vl} {l : List α} {k : Nat} {x : α} (h : l[k]? = some x) : atI (l.map g) (k : Int) = some (g x) := by
  rw [Dm.atI_nat, List.getElem?_map, h]
  rfl
theorem made1_ok {S : Sto} {w nbr : Int} {z : List Int} {sts : List (List Int)} {nb : List Int} {vs : List (List Tm)} (hw : 1 ≤ w ∧ w ≤ 64) (hs : SOk w z sts) (hn : (nb.length : Int) = nbr) (hb : ∀ x ∈ nb, x.natAbs < 2 ^ 70) (hl : vs.length < 1000)
    (hv : ∀ s ∈ vs, ∀ t ∈ s, TmB w z nbr t) : Ret (m__law_made [.int w, .tup (vs.map Sm.e), .lst (sts.map Fm.e), .tup (nb.map ie)] S) fun v S1 => v = Fm.e (mkV w sts nb vs) ∧ S1 = S := by
  have hp := pow_le hw
  unfold m__law_made b__law_made
  refine w_run ?_
  walk_at "wp"
  refine (loop_ret (fun k env S1 => S1 = S ∧ ∃ (s5 s6 s7 s8 s9 s10 s11 s12 : Sv), env = [.v (.int w), .v (.tup (vs.map Sm.e)), .v (.lst (sts.map Fm.e)), .v (.tup (nb.map ie)), .ow (.lst ((mkV w sts nb (vs.take k)).map ie)), s5, s6, s7, s8, s9, s10, s11, s12]) _ 0 _ _ ⟨rfl, _, _, _, _, _, _, _, _, rfl⟩ ?_).mono ?_
  · rintro j x env S3 hx ⟨hS, s5, s6, s7, s8, s9, s10, s11, s12, rfl⟩
    subst hS
    obtain ⟨s, hsj, rfl⟩ := map_at hx
    have hts := hv s (List.mem_of_getElem? hsj)
    refine ⟨_, rfl, ?_⟩
    walk_at "wp"
    refine (loop_ret (fun k env S1 => S1 = S3 ∧ ∃ (s7 s8 s9 s10 s11 s12 : Sv), env = [.v (.int w), .v (.tup (vs.map Sm.e)), .v (.lst (sts.map Fm.e)), .v (.tup (nb.map ie)), .ow (.lst ((mkV w sts nb (vs.take (0 + j))).map ie)), .v (Sm.e s), .v (.int ((s.take k).map (tmV sts nb)).sum), s7, s8, s9, s10, s11, s12]) (s.map Tm.e) 0 _ _ ⟨rfl, _, _, _, _, _, _, rfl⟩ ?_).mono ?_
    · rintro i x env S4 hx ⟨hS, s7, s8, s9, s10, s11, s12, rfl⟩
      subst hS
      obtain ⟨t, ht, rfl⟩ := map_at hx
      have tb := hts t (List.mem_of_getElem? ht)
      have tl := tb.v.len
      have hsl := hs.len
      have hs2 := hs.l2
      refine ⟨_, rfl, ?_⟩
      walk_at "wp"
      refine (loop_ret (fun k env S1 => S1 = S4 ∧ ∃ (s11 s12 : Sv), env = [.v (.int w), .v (.tup (vs.map Sm.e)), .v (.lst (sts.map Fm.e)), .v (.tup (nb.map ie)), .ow (.lst ((mkV w sts nb (vs.take (0 + j))).map ie)), .v (Sm.e s), .v (.int ((s.take (0 + i)).map (tmV sts nb)).sum), .v (.int t.f), .v (.tup (t.ps.map ie)), .v (.int t.n), .v (.int (pkF t.f ((t.ps.zip sts).take k))), s11, s12]) (enL (t.ps.map ie)) 0 _ _ ⟨rfl, _, _, rfl⟩ ?_).mono ?_
      · rintro a x env S5 hx ⟨hS, s11, s12, rfl⟩
        subst hS
        obtain ⟨y, hy, rfl⟩ := enL_at hx
        obtain ⟨p, hpa, rfl⟩ := map_at hy
        have hal := (List.getElem?_eq_some_iff.mp hpa).1
        have hst : sts[a]? = some (sts[a]'(by omega)) := List.getElem?_eq_getElem _
        have hz : z[a]? = some (z[a]'(by omega)) := List.getElem?_eq_getElem _
        generalize sts[a]'(by omega) = st at hst
        generalize z[a]'(by omega) = q at hz
        have hpp := tb.v.ps a p q hpa hz
        have hsz := hs.at_ a st q hst hz
        have hbd := getD_bd (k := p.toNat) (hs.bd st (List.mem_of_getElem? hst))
        have e3 : pkF t.f ((t.ps.zip sts).take (0 + a + 1)) = if p < 0 then pkF t.f ((t.ps.zip sts).take (0 + a)) else pkF t.f ((t.ps.zip sts).take (0 + a)) * st.getD p.toNat 0 := by
          rw [Nat.zero_add, take_next (zip_at hpa hst), pkF_snoc]
        refine ⟨_, rfl, ?_⟩
        walk_at "wp"
        refine ⟨fun hk => ?_, fun hk => ?_⟩
        · have hk0 : 0 ≤ p := of_decide_eq_true hk
          walk_at "wp"
          refine ⟨_, f_ixL (lst_at hst), ?_⟩
          walk_at "wp"
          refine ⟨_, f_ixT (tup_at hk0 (by omega)), ?_⟩
          walk_at "wp"
          exact ⟨_, .inl rfl, rfl, _, _, (by rw [e3, if_neg (by omega)]; rfl)⟩
        · have hk0 : ¬ 0 ≤ p := of_decide_eq_false hk
          walk_at "wp"
          exact ⟨_, .inl rfl, rfl, _, _, (by rw [e3, if_pos (by omega)]; rfl)⟩
      · rintro _ S5 ⟨e, rfl, hS, s11, s12, rfl⟩
        subst hS
        have hzl : (t.ps.zip sts).take (0 + (enL (t.ps.map ie)).length) = t.ps.zip sts := by
          rw [enL_length, List.length_map, Nat.zero_add]
          exact List.take_of_length_le (by rw [List.length_zip]; omega)
        rw [hzl]
        have hbd : (pkF t.f (t.ps.zip sts)).natAbs ≤ 2 ^ 64 * (2 ^ 64) ^ 2 := by
          have := pkF_bd hw (t.ps.zip sts) t.f (2 ^ 64) (fun y hy x hx => hs.bd y.2 (List.of_mem_zip hy).2 x hx) (by have := tb.f; omega)
          refine Nat.le_trans this (Nat.mul_le_mul (Nat.le_refl _) (Nat.pow_le_pow_right (by decide) ?_))
          rw [List.length_zip]
          omega
        have hsum : ((s.take (0 + i + 1)).map (tmV sts nb)).sum = ((s.take (0 + i)).map (tmV sts nb)).sum + tmV sts nb t := by
          rw [Nat.zero_add]
          exact sum_next (tmV sts nb) ht
        have tn := tb.v.n
        walk_at "wp"
        refine ⟨fun hk => ?_, fun hk => ?_⟩
        · have hk0 : 0 ≤ t.n := of_decide_eq_true hk
          walk_at "wp"
          refine ⟨_, f_ixT (tup_at hk0 (by omega)), ?_⟩
          walk_at "wp"
          have hnb : (nb.getD t.n.toNat 0).natAbs < 2 ^ 70 := by
            rw [List.getD_eq_getElem?_getD]
            cases e : nb[t.n.toNat]? with
            | none => decide
            | some x => exact hb x (List.mem_of_getElem? e)
          refine ⟨_, f_mulW ⟨Nat.lt_of_le_of_lt hbd (by decide), Nat.lt_trans hnb (by decide)⟩, ?_⟩
          walk_at "wp"
          have e4 : tmV sts nb t = pkF t.f (t.ps.zip sts) * nb.getD t.n.toNat 0 := by
            unfold tmV nv
            rw [if_neg (by omega)]
          exact ⟨_, .inl rfl, rfl, _, _, _, _, _, _, (by rw [hsum, e4]; rfl)⟩
        · have hk0 : ¬ 0 ≤ t.n := of_decide_eq_false hk
          walk_at "wp"
          have e4 : tmV sts nb t = pkF t.f (t.ps.zip sts) := by
            unfold tmV nv
            rw [if_pos (by omega), Int.mul_one]
          exact ⟨_, .inl rfl, rfl, _, _, _, _, _, _, (by rw [hsum, e4]; rfl)⟩
    · rintro _ S4 ⟨e, rfl, hS, s7, s8, s9, s10, s11, s12, rfl⟩
      subst hS
      rw [List.length_map, show 0 + s.length = s.length from Nat.zero_add _, List.take_length]
      have e5 : mkV w sts nb (vs.take (0 + j + 1)) = mkV w sts nb (vs.take (0 + j)) ++ [(s.map (tmV sts nb)).sum % (1 * 2 ^ w.toNat)] := by
        rw [Nat.zero_add, take_next hsj, Int.one_mul]
        unfold mkV
        rw [List.map_append]
        rfl
      walk_at "wp"
      refine ⟨by unfold mkV; rw [List.length_map, List.length_map, List.length_take]; omega, _, .inl rfl, rfl, _, _, _, _, _, _, _, _, (by rw [e5, List.map_append]; rfl)⟩
  · rintro _ S3 ⟨e, rfl, hS, s5, s6, s7, s8, s9, s10, s11, s12, rfl⟩
    subst hS
    walk_at "wp"
    rw [List.length_map, Nat.zero_add, List.take_length]
    exact ⟨rfl, rfl⟩
end G06

set_option Elab.async false
set_option linter.all false
set_option maxRecDepth 100000
set_option autoImplicit false
set_option maxHeartbeats 2000000
namespace G06
open PySem PySem.Spec L2 Dm
local macro_rules | `(tactic| walk_at "wp") => `(tactic| (repeat (first | ((with_reducible apply w_var); exact rfl) | with_reducible refine w_c ?_ | with_reducible refine w_bin ?_ | with_reducible refine w_un ?_ | with_reducible refine w_cB ?_ | with_reducible refine w_tv ?_ | with_reducible refine w_cons ?_ | with_reducible refine w_nil ?_ | with_reducible refine w_call ?_ | with_reducible refine w_ifM ?_ | with_reducible refine w_fld ?_ | with_reducible refine w_seqI ?_ | with_reducible refine w_zpI ?_ | ((with_reducible apply w_comp); exact rfl) | with_reducible refine w_assoc ?_ | with_reducible refine w_qnil ?_ | with_reducible refine w_qset ?_ | with_reducible refine w_qret ?_ | with_reducible refine w_qif ?_ | with_reducible refine w_qfor ?_ | with_reducible refine w_for ?_ | with_reducible refine w_nilS ?_ | with_reducible refine w_ret ?_ | with_reducible refine w_ifS ?_ | with_reducible refine w_set ?_ | with_reducible refine ⟨_, f_neg, ?_⟩ | with_reducible refine ⟨_, f_neI, ?_⟩ | with_reducible refine ⟨_, f_eqI, ?_⟩ | with_reducible refine ⟨_, f_tupL, ?_⟩ | with_reducible refine ⟨_, f_tupT, ?_⟩ | with_reducible refine ⟨_, seqQ, ?_⟩ | with_reducible refine ⟨_, tupQ, ?_⟩ | with_reducible refine ⟨_, _, rfl, seqQ, ?_⟩ | with_reducible refine ⟨_, _, rfl, rfl, ?_⟩ | with_reducible refine ⟨_, _, _, rfl, rfl, ?_⟩ | with_reducible refine ⟨_, _, _, _, rfl, rfl, rfl, ?_⟩ | ((with_reducible refine ⟨_, f_mod ?_, ?_⟩); (first | assumption | omega | decide)) | ((with_reducible refine ⟨_, f_mul ?_, ?_⟩); omega) | with_reducible refine ⟨_, f_addI, ?_⟩ | with_reducible refine ⟨_, rfl, ?_⟩ | with_reducible refine ret_ok.mpr ?_ | refine w_yes rfl ?_ | refine w_no rfl ?_ | ((with_reducible refine w_yes (decide_eq_true ?_) ?_); omega) | ((with_reducible refine w_no (decide_eq_false ?_) ?_); omega) | ((with_reducible refine w_nyes ?_ ?_); omega) | ((with_reducible refine w_nno ?_ ?_); omega))))
/-! ### the program's sums -/
def prS (M a : Int) (zs : List (Int × List Int)) : Int := zs.foldl (fun a z => if z.1 < 0 then a else a * z.2.getD z.1.toNat 0 % M) a
theorem prS_snoc (M f : Int) (zs : List (Int × List Int)) (z : Int × List Int) : prS M f (zs ++ [z]) = if z.1 < 0 then prS M f zs else prS M f zs * z.2.getD z.1.toNat 0 % M := by
  unfold prS
  rw [List.foldl_append]
  rfl
theorem prS_mod {M : Int} : ∀ (zs : List (Int × List Int)) (a b : Int), a % M = b % M → prS M a zs % M = pkF b zs % M
  | [], a, b, h => h
  | z :: zs, a, b, h => by
    show prS M (if z.1 < 0 then a else a * z.2.getD z.1.toNat 0 % M) zs % M = pkF (if z.1 < 0 then b else b * z.2.getD z.1.toNat 0) zs % M
    by_cases hz : z.1 < 0
    · rw [if_pos hz, if_pos hz]
      exact prS_mod zs a b h
    · rw [if_neg hz, if_neg hz]
      refine prS_mod zs _ _ ?_
      rw [Int.emod_emod_of_dvd _ (Int.dvd_refl M), Int.mul_emod, h, ← Int.mul_emod]
theorem sum_mod {α : Type} {M : Int} {g h : α → Int} : ∀ (l : List α), (∀ t ∈ l, g t % M = h t % M) → (l.map g).sum % M = (l.map h).sum % M
  | [], _ => rfl
  | t :: l, e => by
    rw [List.map_cons, List.map_cons, List.sum_cons, List.sum_cons, Int.add_emod, e t (List.mem_cons_self ..), sum_mod l fun u hu => e u (List.mem_cons_of_mem _ hu), ← Int.add_emod]
def tmP (M : Int) (sts : List (List Int)) (nb : List Int) (t : Tm) : Int := prS M (t.f * nv nb t.n) (t.ps.zip sts)
theorem sum_of_ok {S : Sto} {w nbr : Int} {z : List Int} {sts : List (List Int)} {nb : List Int} {s : List Tm} (hw : 1 ≤ w ∧ w ≤ 64) (hs : SOk w z sts) (hn : (nb.length : Int) = nbr)
    (hts : ∀ t ∈ s, TmB w z nbr t) : Ret (m_sum_of [Sm.e s, .lst (sts.map Fm.e), .tup (nb.map ie), .int (1 * 2 ^ w.toNat)] S) fun v S1 => v = .int (smV w sts nb s) ∧ S1 = S := by
  have hp := pow_le hw
  unfold m_sum_of b_sum_of
  refine w_run ?_
  walk_at "wp"
  rw [Int.one_mul]
  refine (loop_ret (fun k env S1 => S1 = S ∧ ∃ (s5 s6 s7 s8 s9 s10 : Sv), env = [.v (Sm.e s), .v (.lst (sts.map Fm.e)), .v (.tup (nb.map ie)), .v (.int (2 ^ w.toNat)), .v (.int ((s.take k).map (tmP (2 ^ w.toNat) sts nb)).sum), s5, s6, s7, s8, s9, s10]) (s.map Tm.e) 0 _ _ ⟨rfl, _, _, _, _, _, _, rfl⟩ ?_).mono ?_
  · rintro i x env S4 hx ⟨hS, s5, s6, s7, s8, s9, s10, rfl⟩
    subst hS
    obtain ⟨t, ht, rfl⟩ := map_at hx
    have tb := hts t (List.mem_of_getElem? ht)
    have tl := tb.v.len
    have hsl := hs.len
    have tn := tb.v.n
    have tf := tb.f
    have hsum : ((s.take (0 + i + 1)).map (tmP (2 ^ w.toNat) sts nb)).sum = ((s.take (0 + i)).map (tmP (2 ^ w.toNat) sts nb)).sum + tmP (2 ^ w.toNat) sts nb t := by
      rw [Nat.zero_add]
      exact sum_next _ ht
    have rest : ∀ s8 : Sv, Ret (seqS (forS (zpI (consA (varM 6) (consA (varM 1) nilA))) (tfT (tfCons (tfN 9) (tfCons (tfN 10) tfNil)))
        (ifS (tv (bin2 neF (varM 9) (un1 negF (cM (.int 1))))) (setS 8 (bin2 modF (bin2 mulF (varM 8) (bin2 ixF (varM 10) (varM 9))) (varM 3))) nilS)) (setS 4 (bin2 addIF (varM 4) (varM 8)))
        [.v (Sm.e s), .v (.lst (sts.map Fm.e)), .v (.tup (nb.map ie)), .v (.int (2 ^ w.toNat)), .v (.int ((s.take (0 + i)).map (tmP (2 ^ w.toNat) sts nb)).sum), .v (.int t.f), .v (.tup (t.ps.map ie)), .v (.int t.n), .v (.int (t.f * nv nb t.n)), s9, s10] S4)
        fun fl S1 => ∃ e2, (fl = .nx e2 ∨ fl = .ct e2) ∧ S1 = S4 ∧ ∃ (s5 s6 s7 s8 s9 s10 : Sv), e2 = [.v (Sm.e s), .v (.lst (sts.map Fm.e)), .v (.tup (nb.map ie)), .v (.int (2 ^ w.toNat)), .v (.int ((s.take (0 + i + 1)).map (tmP (2 ^ w.toNat) sts nb)).sum), s5, s6, s7, s8, s9, s10] := fun _ => by
      walk_at "wp"
      refine (loop_ret (fun k env S1 => S1 = S4 ∧ ∃ (s9 s10 : Sv), env = [.v (Sm.e s), .v (.lst (sts.map Fm.e)), .v (.tup (nb.map ie)), .v (.int (2 ^ w.toNat)), .v (.int ((s.take (0 + i)).map (tmP (2 ^ w.toNat) sts nb)).sum), .v (.int t.f), .v (.tup (t.ps.map ie)), .v (.int t.n), .v (.int (prS (2 ^ w.toNat) (t.f * nv nb t.n) ((t.ps.zip sts).take k))), s9, s10]) (zpL (t.ps.map ie) (sts.map Fm.e)) 0 _ _ ⟨rfl, _, _, rfl⟩ ?_).mono ?_
      · rintro a x env S5 hx ⟨hS, s9, s10, rfl⟩
        subst hS
        obtain ⟨y, y', hy, hy', rfl⟩ := zpL_at hx
        obtain ⟨p, hpa, rfl⟩ := map_at hy
        obtain ⟨st, hst, rfl⟩ := map_at hy'
        have hal := (List.getElem?_eq_some_iff.mp hpa).1
        have hz : z[a]? = some (z[a]'(by omega)) := List.getElem?_eq_getElem _
        generalize z[a]'(by omega) = q at hz
        have hpp := tb.v.ps a p q hpa hz
        have hsz := hs.at_ a st q hst hz
        have hbd := getD_bd (k := p.toNat) (hs.bd st (List.mem_of_getElem? hst))
        have e3 : prS (2 ^ w.toNat) (t.f * nv nb t.n) ((t.ps.zip sts).take (0 + a + 1)) = if p < 0 then prS (2 ^ w.toNat) (t.f * nv nb t.n) ((t.ps.zip sts).take (0 + a)) else prS (2 ^ w.toNat) (t.f * nv nb t.n) ((t.ps.zip sts).take (0 + a)) * st.getD p.toNat 0 % 2 ^ w.toNat := by
          rw [Nat.zero_add, take_next (zip_at hpa hst), prS_snoc]
        refine ⟨_, rfl, ?_⟩
        walk_at "wp"
        refine ⟨fun hk => ?_, fun hk => ?_⟩
        · have hk0 : 0 ≤ p := by
            have : ¬ p = -1 := by simpa using hk
            omega
          walk_at "wp"
          refine ⟨_, f_ixT (tup_at hk0 (by omega)), ?_⟩
          walk_at "wp"
          exact ⟨_, .inl rfl, rfl, _, _, (by rw [e3, if_neg (by omega)]; rfl)⟩
        · have hk0 : p = -1 := by simpa using hk
          walk_at "wp"
          exact ⟨_, .inl rfl, rfl, _, _, (by rw [e3, if_pos (by omega)]; rfl)⟩
      · rintro _ S5 ⟨e, rfl, hS, s9, s10, rfl⟩
        subst hS
        have hzl : (t.ps.zip sts).take (0 + (zpL (t.ps.map ie) (sts.map Fm.e)).length) = t.ps.zip sts := by
          rw [zpL_length, List.length_map, List.length_map, Nat.zero_add]
          exact List.take_of_length_le (by rw [List.length_zip]; omega)
        rw [hzl]
        walk_at "wp"
        exact ⟨_, .inl rfl, rfl, _, _, _, _, _, _, (by rw [hsum]; rfl)⟩
    refine ⟨_, rfl, ?_⟩
    walk_at "wp"
    refine ⟨fun hk => ?_, fun hk => ?_⟩
    · have hk0 : t.n = -1 := of_decide_eq_true hk
      have e4 : t.f * nv nb t.n = t.f := by
        unfold nv
        rw [if_pos (by omega), Int.mul_one]
      refine w_var rfl ?_
      have := rest .un
      rw [e4] at this
      exact this
    · have hk0 : 0 ≤ t.n := by
        have : ¬ t.n = -1 := of_decide_eq_false hk
        omega
      have e4 : t.f * nv nb t.n = t.f * nb.getD t.n.toNat 0 := by
        unfold nv
        rw [if_neg (by omega)]
      walk_at "wp"
      refine ⟨_, f_ixT (tup_at hk0 (by omega)), ?_⟩
      refine ⟨_, f_mul (.inl ⟨by omega, by omega⟩), ?_⟩
      have := rest .un
      rw [e4] at this
      exact this
  · rintro _ S4 ⟨e, rfl, hS, s5, s6, s7, s8, s9, s10, rfl⟩
    subst hS
    rw [List.length_map, Nat.zero_add, List.take_length]
    walk_at "wp"
    refine ⟨?_, rfl⟩
    unfold smV
    have : (s.map (tmP (2 ^ w.toNat) sts nb)).sum % 2 ^ w.toNat = (s.map (tmV sts nb)).sum % 2 ^ w.toNat := sum_mod s fun t _ => by
      unfold tmP tmV
      rw [prS_mod _ _ _ rfl, pkF_mul]
    rw [this]
theorem made2_ok {S : Sto} {w nbr : Int} {z : List Int} {sts : List (List Int)} {nb : List Int} {vs : List (List Tm)} (hw : 1 ≤ w ∧ w ≤ 64) (hs : SOk w z sts) (hn : (nb.length : Int) = nbr) (hv : ∀ s ∈ vs, ∀ t ∈ s, TmB w z nbr t) :
    Ret (m_made [.tup (vs.map Sm.e), .lst (sts.map Fm.e), .tup (nb.map ie), .int (1 * 2 ^ w.toNat)] S) fun v S1 => v = Fm.e (mkV w sts nb vs) ∧ S1 = S := by
  unfold m_made b_made
  refine w_run ?_
  walk_at "wp"
  refine comp_pure Sm.e (fun s => .int (smV w sts nb s)) vs (fun s hm => ⟨_, rfl, ?_⟩) ?_
  · walk_at "wp"
    exact sum_of_ok hw hs hn (hv s hm)
  walk_at "wp"
  refine ⟨?_, rfl⟩
  unfold Fm.e mkV
  rw [List.map_map]
  rfl
/-! ### rules by their names -/
theorem filter_nd {R : List Ru} {r : Ru} (hn : (R.map (·.nm)).Nodup) (hr : r ∈ R) : R.filter (fun q => decide (q.nm = r.nm)) = [r] := by
  induction R with
  | nil => exact nomatch hr
  | cons q R ih =>
    rw [List.map_cons, List.nodup_cons] at hn
    rcases List.mem_cons.mp hr with rfl | hr
    · rw [List.filter_cons_of_pos (by simp), List.filter_eq_nil_iff.mpr]
      intro p hp
      have : p.nm ≠ r.nm := fun z => hn.1 (z ▸ List.mem_map_of_mem hp)
      simpa using this
    · rw [List.filter_cons_of_neg, ih hn.2 hr]
      have : q.nm ≠ r.nm := fun z => hn.1 (by rw [z]; exact List.mem_map_of_mem hr)
      simpa using this
theorem rule_named_ok {S : Sto} {w : Int} {K : List Kd} {R : List Ru} {top : Str} {A : List (List Int)} (g : GV w K R top A) {r : Ru} (hr : r ∈ R) :
    Ret (m_Grammar_rule_named [Gr w K R top A, .str r.nm] S) fun v S1 => v = r.e ∧ S1 = S := by
  unfold m_Grammar_rule_named b_Grammar_rule_named
  refine w_run ?_
  walk_at "wp"
  refine comp_flt Ru.e Ru.e (fun q => decide (q.nm = r.nm)) R (fun q hq => ⟨_, rfl, ?_, fun _ => ?_⟩) ?_
  · walk_at "wp"
    refine ⟨_, f_eqS (name_str (g.r q hq).nm) (name_str (g.r r hr).nm), ?_⟩
    walk_at "wp"
    exact ⟨rfl, rfl⟩
  · walk_at "wp"
    exact ⟨rfl, rfl⟩
  rw [filter_nd g.rn hr]
  walk_at "wp"
  exact ⟨rfl, rfl⟩
end G06

set_option Elab.async false
set_option linter.all false
set_option maxRecDepth 100000
set_option autoImplicit false
set_option maxHeartbeats 2000000
namespace G06
open PySem PySem.Spec L2 Dm
local macro_rules | `(tactic| walk_at "wp") => `(tactic| (repeat (first | ((with_reducible apply w_var); exact rfl) | ((with_reducible apply w_varO); exact rfl) | ((with_reducible apply w_varL); exact rfl) | with_reducible refine w_c ?_ | with_reducible refine w_bin ?_ | with_reducible refine w_un ?_ | with_reducible refine w_cB ?_ | with_reducible refine w_tv ?_ | with_reducible refine w_cons ?_ | with_reducible refine w_nil ?_ | with_reducible refine w_lst ?_ | with_reducible refine w_call ?_ | with_reducible refine w_orT ?_ | with_reducible refine w_notT ?_ | with_reducible refine w_andV ?_ | with_reducible refine w_ch ?_ | with_reducible refine w_isi ?_ | with_reducible refine w_meth ?_ | with_reducible refine w_fld ?_ | with_reducible refine w_seqI ?_ | with_reducible refine w_enI ?_ | ((with_reducible apply w_comp); exact rfl) | with_reducible refine w_assoc ?_ | with_reducible refine w_qnil ?_ | with_reducible refine w_qown ?_ | with_reducible refine w_qret ?_ | with_reducible refine w_qif ?_ | ((with_reducible apply w_qapp); exact rfl) | with_reducible refine w_qunp ?_ | with_reducible refine w_qfor ?_ | with_reducible refine w_for ?_ | with_reducible refine w_nilS ?_ | with_reducible refine w_ret ?_ | ((with_reducible apply w_retO); exact rfl) | with_reducible refine w_ifS ?_ | ((with_reducible apply w_app); exact rfl) | with_reducible refine ⟨_, f_sub, ?_⟩ | with_reducible refine ⟨_, f_neg, ?_⟩ | with_reducible refine ⟨_, f_cmp, ?_⟩ | with_reducible refine ⟨_, f_neI, ?_⟩ | with_reducible refine ⟨_, f_eqI, ?_⟩ | with_reducible refine ⟨_, f_lenL, ?_⟩ | with_reducible refine ⟨_, f_lenT, ?_⟩ | with_reducible refine ⟨_, f_listL, ?_⟩ | with_reducible refine ⟨_, f_listT, ?_⟩ | with_reducible refine ⟨_, f_all, ?_⟩ | with_reducible refine ⟨_, f_notInD, ?_⟩ | with_reducible refine ⟨_, f_notInT, ?_⟩ | with_reducible refine ⟨_, f_lenQ, ?_⟩ | with_reducible refine ⟨_, tyQ, ?_⟩ | with_reducible refine ⟨_, seqQ, ?_⟩ | with_reducible refine ⟨_, _, rfl, seqQ, ?_⟩ | with_reducible refine ⟨_, _, rfl, rfl, ?_⟩ | with_reducible refine ⟨_, _, _, rfl, rfl, ?_⟩ | with_reducible refine ⟨_, _, _, _, rfl, rfl, rfl, ?_⟩ | with_reducible refine ⟨_, f_notInL, ?_⟩ | with_reducible refine ⟨_, rfl, ?_⟩ | ((with_reducible refine ⟨_, f_lenS ?_, ?_⟩); omega) | with_reducible refine ret_ok.mpr ?_ | refine w_yes rfl ?_ | refine w_no rfl ?_ | ((with_reducible refine w_yes (decide_eq_true ?_) ?_); omega) | ((with_reducible refine w_no (decide_eq_false ?_) ?_); omega) | ((with_reducible refine w_nyes ?_ ?_); omega) | ((with_reducible refine w_nno ?_ ?_); omega))))
theorem TrOk.at {R : List Ru} {T : List Stp} {ks : List Str} (h : TrOk R T ks) : ∀ {i : Nat} {s : Stp}, T[i]? = some s → ∃ r, StOk R (ks.take i) s r ∧ ks[i]? = some r.kd := by
  induction h with
  | nil => intro i s h; simp at h
  | @snoc T ks s r h0 hs ih =>
    intro i s' h
    have hl := h0.len
    by_cases hi : i < T.length
    · rw [List.getElem?_append_left hi] at h
      obtain ⟨q, h1, h2⟩ := ih h
      refine ⟨q, ?_, ?_⟩
      · rw [List.take_append_of_le_length (by omega)]
        exact h1
      · rw [List.getElem?_append_left (by omega)]
        exact h2
    · have e : i = T.length := by
        have := (List.getElem?_eq_some_iff.mp h).1
        rw [List.length_append, List.length_singleton] at this
        omega
      subst e
      rw [List.getElem?_append_right (Nat.le_refl _), Nat.sub_self] at h
      cases h
      refine ⟨r, ?_, ?_⟩
      · rw [← hl, List.take_append_of_le_length (Nat.le_refl _), List.take_length]
        exact hs
      · rw [← hl, List.getElem?_append_right (Nat.le_refl _), Nat.sub_self]
        rfl
theorem f_neSame {S : Sto} {x : Vl} (h : okD (look S x) = true) : neF S x x = some (.bl false) := by
  rw [f_ne h h, eqv_self h]
  rfl
theorem is_step_ok {S : Sto} {w : Int} {K : List Kd} {R : List Ru} {top : Str} {A : List (List Int)} (g : GV w K R top A) {ks : List Str} {s : Stp} {r : Ru} (st : StOk R ks s r) :
    Ret (m_is_step [Gr w K R top A, s.e, .lst (ks.map .str)] S) (Yes S) := by
  have hnm := st.nm
  have rv := g.r r st.mem
  have hpl := st.pl
  have hin : ∀ p ∈ s.pl, ∃ c, ks[p]? = some c := fun p hp => by
    obtain ⟨j, hj⟩ := List.getElem?_of_mem hp
    have hl := (List.getElem?_eq_some_iff.mp hj).1
    exact ⟨_, st.at_ j p _ hj (List.getElem?_eq_getElem (by omega))⟩
  have hch : s.pl.map (fun p => Vl.str (ks.getD p "")) = r.ch.map .str := by
    refine List.ext_getElem? fun j => ?_
    rw [List.getElem?_map, List.getElem?_map]
    cases e : s.pl[j]? with
    | none =>
      have : r.ch[j]? = none := by
        rw [List.getElem?_eq_none_iff] at e ⊢
        omega
      rw [this]
      rfl
    | some p =>
      have hl := (List.getElem?_eq_some_iff.mp e).1
      have e2 : r.ch[j]? = some (r.ch[j]'(by omega)) := List.getElem?_eq_getElem _
      have := st.at_ j p _ e e2
      rw [e2]
      show some (Vl.str (ks.getD p "")) = some (Vl.str _)
      rw [List.getD_eq_getElem?_getD, this]
      rfl
  unfold m_is_step b_is_step Stp.e
  refine w_run ?_
  walk_at "wp"
  refine comp_pure Ru.e (fun r => .str r.nm) R (fun q hq => ⟨_, rfl, ?_⟩) ?_
  · walk_at "wp"
    exact ⟨rfl, rfl⟩
  have e1 : R.map (fun r => Vl.str r.nm) = (R.map (·.nm)).map .str := by
    rw [List.map_map]
    rfl
  rw [e1]
  walk_at "wp"
  refine w_nno (by rw [← hnm]; exact List.mem_map_of_mem st.mem) ?_
  walk_at "wp"
  rw [← hnm]
  refine (rule_named_ok g st.mem).mono ?_
  rintro _ _ ⟨rfl, rfl⟩
  refine ⟨_, rfl, rfl, ?_⟩
  walk_at "wp"
  rw [List.length_map, List.length_map]
  refine w_nno (by omega) ?_
  walk_at "wp"
  refine w_all (fun i x hx => ?_) ?_
  · obtain ⟨p, hp, rfl⟩ := map_at hx
    refine ⟨_, rfl, ?_⟩
    walk_at "wp"
    obtain ⟨c, hc⟩ := hin p (List.mem_of_getElem? hp)
    have := (List.getElem?_eq_some_iff.mp hc).1
    refine is_from_ok ⟨by omega, ?_⟩
    rw [List.length_map]
    omega
  walk_at "wp"
  refine comp_pure ne (fun p => .str (ks.getD p "")) s.pl (fun p hp => ⟨_, rfl, ?_⟩) ?_
  · walk_at "wp"
    obtain ⟨c, hc⟩ := hin p hp
    refine ⟨_, f_ixL (lst_at hc), ?_, rfl⟩
    rw [List.getD_eq_getElem?_getD, hc]
    rfl
  walk_at "wp"
  rw [hch]
  refine ⟨_, f_neSame (okStrs 58 fun c hc => g.str (rv.ch c hc)), ?_⟩
  walk_at "wp"
  rw [List.length_map]
  refine ⟨fun _ => ?_, fun z => ?_⟩
  · walk_at "wp"
    refine w_all (fun i x hx => ?_) ?_
    · obtain ⟨p, hp, rfl⟩ := map_at hx
      refine ⟨_, rfl, ?_⟩
      walk_at "wp"
      exact is_int_ok
    walk_at "wp"
    exact ⟨rfl, rfl⟩
  · have := of_decide_eq_false z
    have := st.nb
    omega
theorem are_steps_ok {S : Sto} {b : Bool} {T : List Stp} (h0 : T ≠ []) (h1 : T.length ≤ 2000) : Ret (m_are_steps [sq b (T.map Stp.e)] S) (Yes S) := by
  have hl : 0 < T.length := List.length_pos_iff.mpr h0
  unfold m_are_steps b_are_steps
  refine w_run ?_
  walk_at "wp"
  refine ⟨fun _ => ?_, fun z => ?_⟩
  · walk_at "wp"
    rw [List.length_map]
    walk_at "wp"
    exact ⟨by rw [decide_eq_true (by omega)], rfl⟩
  · rw [isiQ] at z
    cases z
theorem kinds_of_ok {S : Sto} {b : Bool} {w : Int} {K : List Kd} {R : List Ru} {top : Str} {A : List (List Int)} (hS : stOk S = true) (g : GV w K R top A) {T : List Stp} {ks : List Str} (h : TrOk R T ks) (h0 : T ≠ []) (h1 : T.length ≤ 2000) :
    Ret (m_kinds_of [Gr w K R top A, sq b (T.map Stp.e)] S) fun v S1 => v = .lst (ks.map .str) ∧ S1 = S := by
  have hkl := h.len
  unfold m_kinds_of b_kinds_of
  refine w_run ?_
  walk_at "wp"
  refine (are_steps_ok h0 h1).mono ?_
  rintro _ _ ⟨rfl, rfl⟩
  walk_at "wp"
  rename_i S
  refine (loop_ret (fun k env S1 => S1 = S ∧ ∃ (s3 s4 : Sv), env = [.v (Gr w K R top A), .v (sq b (T.map Stp.e)), .ow (.lst ((ks.take k).map .str)), s3, s4]) (enL (T.map Stp.e)) 0 _ _ ⟨rfl, _, _, rfl⟩ ?_).mono ?_
  · rintro j x env S3 hx ⟨hS', s3, s4, rfl⟩
    subst hS'
    obtain ⟨y, hy, rfl⟩ := enL_at hx
    obtain ⟨s, hs, rfl⟩ := map_at hy
    obtain ⟨r, st, hk⟩ := h.at hs
    have hjl := (List.getElem?_eq_some_iff.mp hs).1
    refine ⟨_, rfl, ?_⟩
    walk_at "wp"
    refine w_callL rfl ?_
    walk_at "wp"
    rw [Nat.zero_add]
    refine (is_step_ok g st).mono ?_
    rintro _ _ ⟨rfl, rfl⟩
    refine ⟨rfl, hS, ?_⟩
    walk_at "wp"
    rw [← st.nm]
    refine (rule_named_ok g st.mem).mono ?_
    rintro _ _ ⟨rfl, rfl⟩
    walk_at "wp"
    refine ⟨by rw [List.length_map, List.length_take]; omega, _, .inl rfl, rfl, _, _, (by rw [take_next hk, List.map_append]; rfl)⟩
  · rintro _ S3 ⟨e, rfl, hS', s3, s4, rfl⟩
    subst hS'
    rw [enL_length, List.length_map, Nat.zero_add, ← hkl, List.take_length]
    walk_at "wp"
    exact ⟨rfl, rfl⟩
theorem at_last {α : Type} {g : α → Vl} {l : List α} {x : α} : atI ((l ++ [x]).map g) (-1) = some (g x) := by
  unfold atI ixN
  rw [if_neg (by decide), if_pos (by simp; omega)]
  have e : ((-1 : Int) + ((l ++ [x]).map g).length).toNat = l.length := by
    simp
    omega
  show ((l ++ [x]).map g)[((-1 : Int) + ((l ++ [x]).map g).length).toNat]? = _
  rw [e, List.getElem?_map, List.getElem?_append_right (Nat.le_refl _), Nat.sub_self]
  rfl
theorem kind_of_ok {S : Sto} {b : Bool} {w : Int} {K : List Kd} {R : List Ru} {top : Str} {A : List (List Int)} (hS : stOk S = true) (g : GV w K R top A) {T : List Stp} {ks : List Str} {k : Str} (h : TrOk R T (ks ++ [k])) (h1 : T.length ≤ 2000) :
    Ret (m_kind_of [Gr w K R top A, sq b (T.map Stp.e)] S) fun v S1 => v = .str k ∧ S1 = S := by
  have h0 : T ≠ [] := fun z => by
    have := h.len
    rw [z] at this
    simp at this
  unfold m_kind_of b_kind_of
  refine w_run ?_
  walk_at "wp"
  refine (kinds_of_ok hS g h h0 h1).mono ?_
  rintro _ _ ⟨rfl, rfl⟩
  walk_at "wp"
  exact ⟨_, f_ixL at_last, rfl, rfl⟩
end G06

set_option Elab.async false
set_option linter.all false
set_option maxRecDepth 100000
set_option autoImplicit false
set_option maxHeartbeats 2000000
namespace G06
open PySem PySem.Spec L2 Dm
local macro_rules | `(tactic| walk_at "wp") => `(tactic| (repeat (first | ((with_reducible apply w_var); exact rfl) | ((with_reducible apply w_varO); exact rfl) | ((with_reducible apply w_varL); exact rfl) | with_reducible refine w_c ?_ | with_reducible refine w_bin ?_ | with_reducible refine w_cB ?_ | with_reducible refine w_tv ?_ | with_reducible refine w_cons ?_ | with_reducible refine w_nil ?_ | with_reducible refine w_tup ?_ | with_reducible refine w_lst ?_ | with_reducible refine w_call ?_ | with_reducible refine w_meth ?_ | with_reducible refine w_fld ?_ | with_reducible refine w_seqI ?_ | with_reducible refine w_enI ?_ | ((with_reducible apply w_comp); exact rfl) | with_reducible refine w_assoc ?_ | with_reducible refine w_qnil ?_ | with_reducible refine w_qset ?_ | with_reducible refine w_qif ?_ | ((with_reducible apply w_qapp); exact rfl) | with_reducible refine w_qparVO ?_ | with_reducible refine w_qfor ?_ | with_reducible refine w_for ?_ | with_reducible refine w_nilS ?_ | ((with_reducible apply w_retO); exact rfl) | with_reducible refine w_ifS ?_ | with_reducible refine w_set ?_ | ((with_reducible apply w_app); exact rfl) | with_reducible refine ⟨_, f_inD, ?_⟩ | with_reducible refine ⟨_, f_inL, ?_⟩ | with_reducible refine ⟨_, seqQ, ?_⟩ | with_reducible refine ⟨_, _, rfl, seqQ, ?_⟩ | with_reducible refine ⟨_, _, rfl, rfl, ?_⟩ | with_reducible refine ⟨_, _, _, rfl, rfl, ?_⟩ | with_reducible refine ⟨_, _, _, _, rfl, rfl, rfl, ?_⟩ | ((with_reducible refine ⟨_, f_shl ?_, ?_⟩); (first | omega | decide)) | with_reducible refine ⟨_, f_in0, ?_⟩ | with_reducible refine ⟨_, rfl, ?_⟩ | with_reducible refine ret_ok.mpr ?_ | refine w_yes rfl ?_ | refine w_no rfl ?_ | ((with_reducible refine w_yes (decide_eq_true ?_) ?_); omega) | ((with_reducible refine w_no (decide_eq_false ?_) ?_); omega) | ((with_reducible refine w_nyes ?_ ?_); omega) | ((with_reducible refine w_nno ?_ ?_); omega))))
theorem find_nd {R : List Ru} {r : Ru} (hn : (R.map (·.nm)).Nodup) (hr : r ∈ R) : (R.find? fun q => decide (q.nm = r.nm)) = some r := by
  have h := filter_nd hn hr
  rw [← List.head?_filter, h]
  rfl
def rvs (R : List Ru) (nm : Str) : List (List Tm) := ((R.find? fun r => decide (r.nm = nm)).map (·.vs)).getD []
theorem rvs_eq {R : List Ru} {r : Ru} (hn : (R.map (·.nm)).Nodup) (hr : r ∈ R) : rvs R r.nm = r.vs := by
  unfold rvs
  rw [find_nd hn hr]
  rfl
def stepV (w : Int) (R : List Ru) (acc : List (List Int)) (s : Stp) : List Int := mkV w (s.pl.map fun p => acc.getD p []) s.nb (rvs R s.nm)
def alongV (w : Int) (R : List Ru) (T : List Stp) : List (List Int) := T.foldl (fun acc s => acc ++ [stepV w R acc s]) []
theorem alongV_snoc (w : Int) (R : List Ru) (T : List Stp) (s : Stp) : alongV w R (T ++ [s]) = alongV w R T ++ [stepV w R (alongV w R T) s] := by
  unfold alongV
  rw [List.foldl_append]
  rfl
theorem TrOk.take {R : List Ru} {T : List Stp} {ks : List Str} (h : TrOk R T ks) : ∀ k : Nat, TrOk R (T.take k) (ks.take k) := by
  induction h with
  | nil => intro k; rw [List.take_nil, List.take_nil]; exact .nil
  | @snoc T ks s r h0 hs ih =>
    intro k
    have hl := h0.len
    by_cases hk : k ≤ T.length
    · rw [List.take_append_of_le_length hk, List.take_append_of_le_length (by omega)]
      exact ih k
    · rw [List.take_of_length_le (by simp; omega), List.take_of_length_le (by simp; omega)]
      exact .snoc h0 hs
theorem GR.tmb {w : Int} {K : List Kd} {R : List Ru} {top : Str} {A : List (List Int)} (g : GR w K R top A) {r : Ru} (hr : r ∈ R) : ∀ s ∈ r.vs, ∀ t ∈ s, TmB w (r.ch.map (sz K)) r.nb t := fun s hs t ht => by
  have hp := pow_le g.v.w
  have e1 : redR w r = r := by
    have := g.r
    have : R.map (redR w) = R.map id := by rw [this, List.map_id]
    exact List.map_inj_left.mp this r hr
  have e2 : redS w s = s := by
    have : r.vs.map (redS w) = r.vs.map id := by rw [List.map_id]; exact congrArg Ru.vs e1
    exact List.map_inj_left.mp this s hs
  have e3 : red w t = t := by
    have : s.map (red w) = s.map id := by rw [List.map_id]; exact e2
    exact List.map_inj_left.mp this t ht
  have e4 : t.f % 2 ^ w.toNat = t.f := congrArg Tm.f e3
  refine ⟨((g.v.r r hr).sm s hs).2 t ht, ?_⟩
  rw [← e4]
  exact ⟨Int.emod_nonneg _ (by omega), Int.emod_lt_of_pos _ (by omega)⟩
/-- the attributes of the steps: as many as their kinds have, below the modulus -/
structure AvOk (w : Int) (K : List Kd) (ks : List Str) (av : List (List Int)) : Prop where
  len : av.length = ks.length
  at_ : ∀ (i : Nat) (st : List Int) (k : Str), av[i]? = some st → ks[i]? = some k → (st.length : Int) = sz K k ∧ ∀ x ∈ st, 0 ≤ x ∧ x < 2 ^ w.toNat
theorem AvOk.s {w : Int} {K : List Kd} {R : List Ru} {ks : List Str} {av : List (List Int)} (h : AvOk w K ks av) {s : Stp} {r : Ru} (st : StOk R ks s r) (hr : r.ch.length ≤ 2) : SOk w (r.ch.map (sz K)) (s.pl.map fun p => av.getD p []) := by
  have key : ∀ (j p : Nat), s.pl[j]? = some p → ∃ (c : Str) (v : List Int), r.ch[j]? = some c ∧ av[p]? = some v ∧ (v.length : Int) = sz K c ∧ ∀ x ∈ v, 0 ≤ x ∧ x < 2 ^ w.toNat := fun j p hj => by
    have hl := (List.getElem?_eq_some_iff.mp hj).1
    have e2 : r.ch[j]? = some (r.ch[j]'(by have := st.pl; omega)) := List.getElem?_eq_getElem _
    have e3 := st.at_ j p _ hj e2
    have hpl := (List.getElem?_eq_some_iff.mp e3).1
    have e4 : av[p]? = some (av[p]'(by rw [h.len]; exact hpl)) := List.getElem?_eq_getElem _
    exact ⟨_, _, e2, e4, h.at_ p _ _ e4 e3⟩
  refine ⟨by rw [List.length_map, List.length_map, st.pl], by rw [List.length_map, st.pl]; exact hr, fun i v k h1 h2 => ?_, fun v hv x hx => ?_⟩
  · rw [List.getElem?_map] at h1 h2
    obtain ⟨p, hp, rfl⟩ := Option.map_eq_some_iff.mp h1
    obtain ⟨c, hc, rfl⟩ := Option.map_eq_some_iff.mp h2
    obtain ⟨c', v, e1, e2, e3, _⟩ := key i p hp
    rw [hc] at e1
    cases e1
    rw [List.getD_eq_getElem?_getD, e2]
    exact e3
  · obtain ⟨p, hp, rfl⟩ := List.mem_map.mp hv
    obtain ⟨j, hj⟩ := List.getElem?_of_mem hp
    obtain ⟨c', v, e1, e2, e3, e4⟩ := key j p hj
    rw [List.getD_eq_getElem?_getD, e2] at hx
    exact e4 x hx
theorem av_ok {w : Int} {K : List Kd} {R : List Ru} {top : Str} {A : List (List Int)} (g : GR w K R top A) {T : List Stp} {ks : List Str} (h : TrOk R T ks) : AvOk w K ks (alongV w R T) := by
  have hp := pow_le g.v.w
  induction h with
  | nil => exact ⟨rfl, fun i st k h => by simp [alongV] at h⟩
  | @snoc T ks s r h0 hs ih =>
    rw [alongV_snoc]
    refine ⟨by rw [List.length_append, List.length_append, ih.len]; rfl, fun i st k h1 h2 => ?_⟩
    by_cases hi : i < ks.length
    · rw [List.getElem?_append_left (by rw [ih.len]; exact hi)] at h1
      rw [List.getElem?_append_left hi] at h2
      exact ih.at_ i st k h1 h2
    · have e : i = ks.length := by
        have := (List.getElem?_eq_some_iff.mp h2).1
        rw [List.length_append, List.length_singleton] at this
        omega
      subst e
      rw [← ih.len, List.getElem?_append_right (Nat.le_refl _), Nat.sub_self] at h1
      rw [List.getElem?_append_right (Nat.le_refl _), Nat.sub_self] at h2
      cases h1
      cases h2
      unfold stepV
      rw [← hs.nm, rvs_eq g.v.rn hs.mem]
      refine ⟨?_, fun x hx => ?_⟩
      · unfold mkV
        rw [List.length_map]
        exact (g.v.r r hs.mem).vs
      · obtain ⟨q, _, rfl⟩ := List.mem_map.mp hx
        exact ⟨Int.emod_nonneg _ (by omega), Int.emod_lt_of_pos _ (by omega)⟩
theorem vs_len {w : Int} {K : List Kd} {R : List Ru} {top : Str} {A : List (List Int)} (g : GV w K R top A) {r : Ru} (hr : r ∈ R) : r.vs.length < 1000 := by
  have h1 := (g.r r hr).vs
  have h2 := sz_bd (fun k hk => (g.k.at1 k hk).2) (g.r r hr).kd
  omega
def rdl (R : List Ru) : List (Str × Vl) := R.map fun r => (r.nm, r.e)
theorem f_rdl {S : Sto} {R : List Ru} (h : (R.map (·.nm)).Nodup) : dictF S [.lst (R.map fun r => .tup [.str r.nm, r.e])] = some (dkOf (rdl R)) := by
  have hn : ((rdl R).map (·.1)).Nodup := by
    unfold rdl
    rw [List.map_map]
    exact h
  have := f_dict (S := S) (rdl R) hn
  unfold rdl at this ⊢
  rw [List.map_map] at this
  exact this
theorem rdl_ix {S : Sto} {R : List Ru} {r : Ru} (hn : (R.map (·.nm)).Nodup) (hr : r ∈ R) : ixF S (dkOf (rdl R)) (.str r.nm) = some r.e := by
  refine f_ixD ?_
  unfold rdl
  rw [List.find?_map]
  have : ((fun p : Str × Vl => decide (p.1 = r.nm)) ∘ fun q : Ru => (q.nm, q.e)) = fun q : Ru => decide (q.nm = r.nm) := rfl
  rw [this, find_nd hn hr]
  rfl
theorem pl_map (acc : List (List Int)) (pl : List Nat) : pl.map (fun p => Fm.e (acc.getD p [])) = (pl.map fun p => acc.getD p []).map Fm.e := by
  rw [List.map_map]
  rfl
theorem pl_lt {R : List Ru} {ks : List Str} {s : Stp} {r : Ru} (st : StOk R ks s r) {p : Nat} (hp : p ∈ s.pl) : p < ks.length := by
  obtain ⟨j, hj⟩ := List.getElem?_of_mem hp
  have hl := (List.getElem?_eq_some_iff.mp hj).1
  have := st.at_ j p _ hj (List.getElem?_eq_getElem (by have := st.pl; omega))
  exact (List.getElem?_eq_some_iff.mp this).1
theorem getD_at {α : Type} {l : List α} {p : Nat} {d : α} (h : p < l.length) : l[p]? = some (l.getD p d) := by
  rw [List.getD_eq_getElem?_getD, List.getElem?_eq_getElem h]
  rfl
theorem along_ok {S : Sto} {w : Int} {K : List Kd} {R : List Ru} {top : Str} {A : List (List Int)} (g : GR w K R top A) {T : List Stp} {ks : List Str} (h : TrOk R T ks) (h1 : T.length ≤ 2000) :
    Ret (m__law_along [.int w, .lst (R.map Ru.e), .lst (T.map Stp.e)] S) fun v S1 => v = .lst ((alongV w R T).map Fm.e) ∧ S1 = S := by
  unfold m__law_along b__law_along
  refine w_run ?_
  walk_at "wp"
  refine comp_pure Ru.e (fun r => .tup [.str r.nm, r.e]) R (fun q hq => ⟨_, rfl, ?_⟩) ?_
  · walk_at "wp"
    exact ⟨rfl, rfl⟩
  walk_at "wp"
  refine ⟨_, f_rdl g.v.rn, ?_⟩
  walk_at "wp"
  refine (loop_ret (fun k env S1 => S1 = S ∧ ∃ (s5 s6 s7 : Sv), env = [.v (.int w), .v (.lst (R.map Ru.e)), .v (.lst (T.map Stp.e)), .v (dkOf (rdl R)), .ow (.lst ((alongV w R (T.take k)).map Fm.e)), s5, s6, s7, .un, .un]) (T.map Stp.e) 0 _ _ ⟨rfl, _, _, _, rfl⟩ ?_).mono ?_
  · rintro j x env S3 hx ⟨hS', s5, s6, s7, rfl⟩
    subst hS'
    obtain ⟨s, hs, rfl⟩ := map_at hx
    obtain ⟨r, st, hk⟩ := h.at hs
    have hjl := (List.getElem?_eq_some_iff.mp hs).1
    have av := av_ok g (h.take j)
    have e5 : alongV w R (T.take (0 + j + 1)) = alongV w R (T.take (0 + j)) ++ [stepV w R (alongV w R (T.take (0 + j))) s] := by
      rw [Nat.zero_add, take_next hs, alongV_snoc]
    refine ⟨_, rfl, ?_⟩
    walk_at "wp"
    refine ⟨_, by rw [← st.nm]; exact rdl_ix g.v.rn st.mem, ?_⟩
    walk_at "wp"
    refine comp_pure ne (fun p => Fm.e ((alongV w R (T.take (0 + j))).getD p [])) s.pl (fun p hp => ⟨_, rfl, ?_⟩) ?_
    · walk_at "wp"
      have := pl_lt st hp
      exact ⟨_, f_ixL (lst_at (getD_at (by rw [Nat.zero_add, av.len]; exact this))), rfl, rfl⟩
    rw [pl_map]
    walk_at "wp"
    refine (made1_ok g.v.w (by rw [Nat.zero_add]; exact av.s st (g.v.r r st.mem).chl) st.nb st.nbd (vs_len g.v st.mem) (g.tmb st.mem)).mono ?_
    rintro _ _ ⟨rfl, rfl⟩
    refine ⟨by rw [List.length_map, Nat.zero_add, av.len, List.length_take]; have := h.len; omega, _, .inl rfl, rfl, _, _, _, (by rw [e5, List.map_append]; unfold stepV; rw [← st.nm, rvs_eq g.v.rn st.mem]; rfl)⟩
  · rintro _ S3 ⟨e, rfl, hS', s5, s6, s7, rfl⟩
    subst hS'
    rw [List.length_map, Nat.zero_add, List.take_length]
    walk_at "wp"
    exact ⟨rfl, rfl⟩
theorem values_along_ok {S : Sto} {b : Bool} {w : Int} {K : List Kd} {R : List Ru} {top : Str} {A : List (List Int)} (g : GR w K R top A) {T : List Stp} {ks : List Str} (h : TrOk R T ks) (h1 : T.length ≤ 2000) :
    Ret (m_values_along [Gr w K R top A, sq b (T.map Stp.e), .dk [] []] S) fun v S1 => v = .lst ((alongV w R T).map Fm.e) ∧ S1 = S := by
  have hw := g.v.w
  unfold m_values_along b_values_along
  refine w_run ?_
  walk_at "wp"
  refine (loop_ret (fun k env S1 => S1 = S ∧ ∃ (s5 s6 s7 : Sv), env = [.v (Gr w K R top A), .v (sq b (T.map Stp.e)), .v (.dk [] []), .v (.int (1 * 2 ^ w.toNat)), .ow (.lst ((alongV w R (T.take k)).map Fm.e)), s5, s6, s7, .un]) (enL (T.map Stp.e)) 0 _ _ ⟨rfl, _, _, _, rfl⟩ ?_).mono ?_
  · rintro j x env S3 hx ⟨hS', s5, s6, s7, rfl⟩
    subst hS'
    obtain ⟨y, hy, rfl⟩ := enL_at hx
    obtain ⟨s, hs, rfl⟩ := map_at hy
    obtain ⟨r, st, hk⟩ := h.at hs
    have hjl := (List.getElem?_eq_some_iff.mp hs).1
    have av := av_ok g (h.take j)
    have e5 : alongV w R (T.take (0 + j + 1)) = alongV w R (T.take (0 + j)) ++ [stepV w R (alongV w R (T.take (0 + j))) s] := by
      rw [Nat.zero_add, take_next hs, alongV_snoc]
    refine ⟨_, rfl, ?_⟩
    walk_at "wp"
    refine comp_pure ne (fun p => Fm.e ((alongV w R (T.take (0 + j))).getD p [])) s.pl (fun p hp => ⟨_, rfl, ?_⟩) ?_
    · walk_at "wp"
      have := pl_lt st hp
      exact ⟨_, f_ixL (lst_at (getD_at (by rw [Nat.zero_add, av.len]; exact this))), rfl, rfl⟩
    rw [pl_map]
    walk_at "wp"
    rw [← st.nm]
    refine (rule_named_ok g.v st.mem).mono ?_
    rintro _ _ ⟨rfl, rfl⟩
    walk_at "wp"
    refine (made2_ok g.v.w (by rw [Nat.zero_add]; exact av.s st (g.v.r r st.mem).chl) st.nb (g.tmb st.mem)).mono ?_
    rintro _ _ ⟨rfl, rfl⟩
    refine ⟨by rw [List.length_map, Nat.zero_add, av.len, List.length_take]; have := h.len; omega, _, .inl rfl, rfl, _, _, _, (by rw [e5, List.map_append]; unfold stepV; rw [← st.nm, rvs_eq g.v.rn st.mem]; rfl)⟩
  · rintro _ S3 ⟨e, rfl, hS', s5, s6, s7, rfl⟩
    subst hS'
    rw [enL_length, List.length_map, Nat.zero_add, List.take_length]
    walk_at "wp"
    exact ⟨rfl, rfl⟩
end G06

set_option Elab.async false
set_option linter.all false
set_option maxRecDepth 100000
set_option autoImplicit false
set_option maxHeartbeats 2000000
namespace G06
open PySem PySem.Spec L2 Dm
local macro_rules | `(tactic| walk_at "wp") => `(tactic| (repeat (first | ((with_reducible apply w_var); exact rfl) | ((with_reducible apply w_varO); exact rfl) | ((with_reducible apply w_varL); exact rfl) | with_reducible refine w_c ?_ | with_reducible refine w_bin ?_ | with_reducible refine w_un ?_ | with_reducible refine w_cB ?_ | with_reducible refine w_tv ?_ | with_reducible refine w_cons ?_ | with_reducible refine w_nil ?_ | with_reducible refine w_lst ?_ | with_reducible refine w_call ?_ | with_reducible refine w_ifM ?_ | with_reducible refine w_fld ?_ | with_reducible refine w_sl ?_ | with_reducible refine w_oN ?_ | with_reducible refine w_oS ?_ | with_reducible refine w_seqI ?_ | with_reducible refine w_zpI ?_ | ((with_reducible apply w_comp); exact rfl) | with_reducible refine w_assoc ?_ | with_reducible refine w_qnil ?_ | with_reducible refine w_qset ?_ | with_reducible refine w_qown ?_ | with_reducible refine w_qexpr ?_ | with_reducible refine w_qret ?_ | with_reducible refine w_qif ?_ | ((with_reducible apply w_qapp); exact rfl) | with_reducible refine w_qfor ?_ | with_reducible refine w_for ?_ | with_reducible refine w_nilS ?_ | with_reducible refine w_ret ?_ | with_reducible refine w_ifS ?_ | with_reducible refine w_set ?_ | with_reducible refine w_expr ?_ | ((with_reducible apply w_app); exact rfl) | ((with_reducible refine ⟨_, f_mulLk ?_, ?_⟩); omega) | with_reducible refine ⟨_, f_add, ?_⟩ | with_reducible refine ⟨_, f_neg, ?_⟩ | with_reducible refine ⟨_, f_neI, ?_⟩ | with_reducible refine ⟨_, f_eqI, ?_⟩ | with_reducible refine ⟨_, f_int, ?_⟩ | with_reducible refine ⟨_, f_intB, ?_⟩ | with_reducible refine ⟨_, f_lenL, ?_⟩ | with_reducible refine ⟨_, f_lenT, ?_⟩ | with_reducible refine ⟨_, f_lenQ, ?_⟩ | with_reducible refine ⟨_, seqQ, ?_⟩ | with_reducible refine ⟨_, _, rfl, seqQ, ?_⟩ | with_reducible refine ⟨_, _, rfl, rfl, ?_⟩ | with_reducible refine ⟨_, _, _, rfl, rfl, ?_⟩ | with_reducible refine ⟨_, _, _, _, rfl, rfl, rfl, ?_⟩ | with_reducible refine ⟨_, f_slL, ?_⟩ | with_reducible refine ⟨_, f_slT, ?_⟩ | ((with_reducible refine ⟨_, f_mod ?_, ?_⟩); (first | assumption | omega | decide)) | ((with_reducible refine ⟨_, f_mul ?_, ?_⟩); omega) | ((with_reducible refine ⟨_, f_shl ?_, ?_⟩); (first | omega | decide)) | with_reducible refine w_retW ?_ | with_reducible refine w_dNew ?_ | with_reducible refine ⟨_, f_sum, ?_⟩ | with_reducible refine ⟨_, rfl, ?_⟩ | ((with_reducible refine ⟨_, f_lenS ?_, ?_⟩); omega) | with_reducible refine ret_ok.mpr ?_ | refine w_yes rfl ?_ | refine w_no rfl ?_ | ((with_reducible refine w_yes (decide_eq_true ?_) ?_); omega) | ((with_reducible refine w_no (decide_eq_false ?_) ?_); omega) | ((with_reducible refine w_nyes ?_ ?_); omega) | ((with_reducible refine w_nno ?_ ?_); omega))))
theorem cut_to {T : Type} {g : T → Vl} {l : List T} {i : Nat} (h : i ≤ l.length) : cutL (l.map g) none (some (i : Int)) = (l.take i).map g := by
  unfold cutL
  rw [HT.sIx_none, HT.sIx_nat, List.drop_zero, Nat.sub_zero, List.map_take, List.length_map, Nat.min_eq_left h]
theorem cut_from {T : Type} {g : T → Vl} {l : List T} {i : Nat} (h : i ≤ l.length) : cutL (l.map g) (some (i : Int)) none = (l.drop i).map g := by
  unfold cutL
  rw [HT.sIx_none, HT.sIx_nat, List.length_map, Nat.min_eq_left h, List.map_drop]
  exact List.take_of_length_le (by simp)
theorem rep_one {x : Vl} (n : Nat) : (List.replicate n [x]).flatten = List.replicate n x := by
  induction n with
  | zero => rfl
  | succ n ih => rw [List.replicate_succ, List.flatten_cons, ih]; rfl
theorem zpL_map : ∀ xs ys : List Int, zpL (xs.map ie) (ys.map ie) = (xs.zip ys).map fun p => .tup [ie p.1, ie p.2]
  | [], _ => by simp [zpL]
  | _ :: _, [] => by simp [zpL]
  | x :: xs, y :: ys => by
    have := zpL_map xs ys
    unfold zpL at this ⊢
    simp [this]
/-! ### values, nodes -/
theorem value_ok {S : Sto} {b : Bool} {w : Int} {K : List Kd} {R : List Ru} {top : Str} {A : List (List Int)} (hS : stOk S = true) (g : GR w K R top A) {T : List Stp} {ks : List Str} (h : TrOk R T ks) (h0 : T ≠ []) (h1 : T.length ≤ 2000) {L : List (List Int)} {st : List Int} (e : alongV w R T = L ++ [st]) :
    Ret (m_value [Gr w K R top A, sq b (T.map Stp.e)] S) fun v S1 => v = Fm.e st ∧ S1 = S := by
  unfold m_value b_value
  refine w_run ?_
  walk_at "wp"
  refine (kinds_of_ok hS g.v h h0 h1).mono ?_
  rintro _ _ ⟨rfl, rfl⟩
  walk_at "wp"
  refine (values_along_ok g h h1).mono ?_
  rintro _ _ ⟨rfl, rfl⟩
  walk_at "wp"
  rw [e]
  exact ⟨_, f_ixL at_last, rfl, rfl⟩
def ndS (acc : List Int) (s : Stp) : Int := 1 + (s.pl.map fun p => acc.getD p 0).sum
def ndV (T : List Stp) : List Int := T.foldl (fun acc s => acc ++ [ndS acc s]) []
theorem ndV_snoc (T : List Stp) (s : Stp) : ndV (T ++ [s]) = ndV T ++ [ndS (ndV T) s] := by
  unfold ndV
  rw [List.foldl_append]
  rfl
theorem ndV_len (T : List Stp) : (ndV T).length = T.length := by
  have : ∀ (T : List Stp) (acc : List Int), (T.foldl (fun acc s => acc ++ [ndS acc s]) acc).length = acc.length + T.length := by
    intro T
    induction T with
    | nil => intro acc; rfl
    | cons s T ih => intro acc; rw [List.foldl_cons, ih]; simp; omega
  have := this T []
  unfold ndV
  simpa using this
theorem pl_int (acc : List Int) (pl : List Nat) : pl.map (fun p => Vl.int (acc.getD p 0)) = (pl.map fun p => acc.getD p 0).map Vl.int := by
  rw [List.map_map]
  rfl
theorem nodes_ok {S : Sto} {R : List Ru} {T : List Stp} {ks : List Str} (h : TrOk R T ks) (h1 : T.length ≤ 2000) {L : List Int} {x : Int} (e : ndV T = L ++ [x]) :
    Ret (m__law_nodes [.lst (T.map Stp.e)] S) fun v S1 => v = .int x ∧ S1 = S := by
  unfold m__law_nodes b__law_nodes
  refine w_run ?_
  walk_at "wp"
  refine (loop_ret (fun k env S1 => S1 = S ∧ ∃ (s2 s3 s4 : Sv), env = [.v (.lst (T.map Stp.e)), .ow (.lst ((ndV (T.take k)).map ie)), s2, s3, s4, .un]) (T.map Stp.e) 0 _ _ ⟨rfl, _, _, _, rfl⟩ ?_).mono ?_
  · rintro j x env S3 hx ⟨hS', s2, s3, s4, rfl⟩
    subst hS'
    obtain ⟨s, hs, rfl⟩ := map_at hx
    obtain ⟨r, st, hk⟩ := h.at hs
    have hjl := (List.getElem?_eq_some_iff.mp hs).1
    have e5 : ndV (T.take (0 + j + 1)) = ndV (T.take (0 + j)) ++ [ndS (ndV (T.take (0 + j))) s] := by
      rw [Nat.zero_add, take_next hs, ndV_snoc]
    refine ⟨_, rfl, ?_⟩
    walk_at "wp"
    refine comp_pure ne (fun p => .int ((ndV (T.take (0 + j))).getD p 0)) s.pl (fun p hp => ⟨_, rfl, ?_⟩) ?_
    · walk_at "wp"
      have := pl_lt st hp
      rw [List.length_take, h.len] at this
      exact ⟨_, f_ixL (lst_at (getD_at (by rw [Nat.zero_add, ndV_len, List.length_take]; exact this))), rfl, rfl⟩
    rw [pl_int]
    walk_at "wp"
    refine ⟨by rw [List.length_map, Nat.zero_add, ndV_len, List.length_take]; omega, _, .inl rfl, rfl, _, _, _, (by rw [e5, List.map_append]; rfl)⟩
  · rintro _ S3 ⟨_, rfl, hS', s2, s3, s4, rfl⟩
    subst hS'
    rw [List.length_map, Nat.zero_add, List.take_length]
    walk_at "wp"
    rw [e]
    exact ⟨_, f_ixL at_last, rfl, rfl⟩
theorem counted_ok {S : Sto} {b : Bool} {R : List Ru} {T : List Stp} {ks : List Str} (h : TrOk R T ks) (h1 : T.length ≤ 2000) {L : List Int} {x : Int} (e : ndV T = L ++ [x]) :
    Ret (m_counted [sq b (T.map Stp.e), .lst (List.replicate T.length (.int 1))] S) fun v S1 => v = .int x ∧ S1 = S := by
  unfold m_counted b_counted
  refine w_run ?_
  walk_at "wp"
  refine ⟨_, _, _, _, rfl, seqQ, rfl, ?_⟩
  refine (loop_ret (fun k env S1 => S1 = S ∧ ∃ (s3 s4 : Sv), env = [.v (sq b (T.map Stp.e)), .v (.lst (List.replicate T.length (.int 1))), .ow (.lst ((ndV (T.take k)).map ie)), s3, s4, .un]) (zpL (T.map Stp.e) (List.replicate T.length (.int 1))) 0 _ _ ⟨rfl, _, _, rfl⟩ ?_).mono ?_
  · rintro j x env S3 hx ⟨hS', s3, s4, rfl⟩
    subst hS'
    obtain ⟨y, y', hy, hy', rfl⟩ := zpL_at hx
    obtain ⟨s, hs, rfl⟩ := map_at hy
    rw [List.getElem?_replicate] at hy'
    have hjl := (List.getElem?_eq_some_iff.mp hs).1
    rw [if_pos hjl] at hy'
    cases hy'
    obtain ⟨r, st, hk⟩ := h.at hs
    have e5 : ndV (T.take (0 + j + 1)) = ndV (T.take (0 + j)) ++ [ndS (ndV (T.take (0 + j))) s] := by
      rw [Nat.zero_add, take_next hs, ndV_snoc]
    refine ⟨_, rfl, ?_⟩
    walk_at "wp"
    refine comp_pure ne (fun p => .int ((ndV (T.take (0 + j))).getD p 0)) s.pl (fun p hp => ⟨_, rfl, ?_⟩) ?_
    · walk_at "wp"
      have := pl_lt st hp
      rw [List.length_take, h.len] at this
      exact ⟨_, f_ixL (lst_at (getD_at (by rw [Nat.zero_add, ndV_len, List.length_take]; exact this))), rfl, rfl⟩
    rw [pl_int]
    walk_at "wp"
    refine ⟨by rw [List.length_map, Nat.zero_add, ndV_len, List.length_take]; omega, _, .inl rfl, rfl, _, _, (by rw [e5, List.map_append]; rfl)⟩
  · rintro _ S3 ⟨_, rfl, hS', s3, s4, rfl⟩
    subst hS'
    rw [zpL_length, List.length_map, List.length_replicate, Nat.min_self, Nat.zero_add, List.take_length]
    walk_at "wp"
    rw [e]
    exact ⟨_, f_ixL at_last, rfl, rfl⟩
theorem count_nodes_ok {S : Sto} {b : Bool} {w : Int} {K : List Kd} {R : List Ru} {top : Str} {A : List (List Int)} (hS : stOk S = true) (g : GR w K R top A) {T : List Stp} {ks : List Str} (h : TrOk R T ks) (h0 : T ≠ []) (h1 : T.length ≤ 2000) {L : List Int} {x : Int} (e : ndV T = L ++ [x]) :
    Ret (m_count_nodes [Gr w K R top A, sq b (T.map Stp.e)] S) fun v S1 => v = .int x ∧ S1 = S := by
  unfold m_count_nodes b_count_nodes
  refine w_run ?_
  walk_at "wp"
  refine (kinds_of_ok hS g.v h h0 h1).mono ?_
  rintro _ _ ⟨rfl, rfl⟩
  refine w_ret (w_call (w_cons (w_var rfl (w_cons (w_bin (w_lst (w_cons (w_c (w_nil (w_cB (w_cons (w_var rfl (w_nil ⟨_, f_lenQ, ?_⟩)))))))))))))
  rw [List.length_map]
  refine ⟨_, f_mulL ⟨by omega, by omega, by simp; omega⟩, ?_⟩
  rw [Int.toNat_natCast, rep_one]
  walk_at "wp"
  exact counted_ok h h1 e
/-! ### forms -/
def fv (w : Int) (st : List Int) (f : List Int) : Int := (f.getD 0 0 + (((f.drop 1).zip st).map fun p => p.1 * p.2).sum) % 2 ^ w.toNat
theorem fv_sum {S : Sto} {env : List Sv} {i j : Nat} {zs : List (Int × Int)} {f : TF} {te : EM} {QA : List Vl → Sto → Prop} (h : ∀ p ∈ zs, ∃ env1, f (.tup [ie p.1, ie p.2]) env = some env1 ∧ Ret (te env1 S) fun y S1 => y = .int (p.1 * p.2) ∧ S1 = S) (q : QA ((zs.map fun p => p.1 * p.2).map Vl.int) S) :
    Ret (compL f yesT te env (zs.map fun p => .tup [ie p.1, ie p.2]) S) QA := by
  refine comp_pure (fun p : Int × Int => .tup [ie p.1, ie p.2]) (fun p => .int (p.1 * p.2)) zs h ?_
  rw [List.map_map] at q
  exact q
theorem form1_ok {S : Sto} {w : Int} {f st : List Int} (hw : 1 ≤ w ∧ w ≤ 64) (h1 : 1 ≤ f.length) (hf : ∀ x ∈ f, 0 ≤ x ∧ x < 2 ^ w.toNat) : Ret (m__law_value [.int w, Fm.e f, Fm.e st] S) fun v S1 => v = .int (fv w st f) ∧ S1 = S := by
  have hp := pow_le hw
  unfold m__law_value b__law_value Fm.e
  refine w_run ?_
  walk_at "wp"
  refine ⟨_, f_ixT (tup_at (by omega) (by omega)), ?_⟩
  walk_at "wp"
  have ec : cutL (f.map ie) (some 1) none = (f.drop 1).map ie := cut_from (i := 1) h1
  rw [ec, zpL_map]
  refine fv_sum (i := 0) (j := 0) (fun p hp => ⟨_, rfl, ?_⟩) ?_
  · have := hf p.1 (List.mem_of_mem_drop (List.of_mem_zip hp).1)
    walk_at "wp"
    exact ⟨rfl, rfl⟩
  walk_at "wp"
  rw [Int.one_mul]
  exact ⟨rfl, rfl⟩
theorem form2_ok {S : Sto} {w : Int} {f st : List Int} (hw : 1 ≤ w ∧ w ≤ 64) (h1 : 1 ≤ f.length) (hf : ∀ x ∈ f, 0 ≤ x ∧ x < 2 ^ w.toNat) : Ret (m_value_of [Fm.e f, Fm.e st, .int (1 * 2 ^ w.toNat)] S) fun v S1 => v = .int (fv w st f) ∧ S1 = S := by
  have hp := pow_le hw
  unfold m_value_of b_value_of Fm.e
  refine w_run ?_
  walk_at "wp"
  refine ⟨_, f_ixT (tup_at (by omega) (by omega)), ?_⟩
  walk_at "wp"
  have ec : cutL (f.map ie) (some 1) none = (f.drop 1).map ie := cut_from (i := 1) h1
  rw [ec, zpL_map]
  refine fv_sum (i := 0) (j := 0) (fun p hp => ⟨_, rfl, ?_⟩) ?_
  · have := hf p.1 (List.mem_of_mem_drop (List.of_mem_zip hp).1)
    walk_at "wp"
    exact ⟨rfl, rfl⟩
  walk_at "wp"
  rw [Int.one_mul]
  walk_at "wp"
  exact ⟨rfl, rfl⟩
theorem GR.fm {w : Int} {K : List Kd} {R : List Ru} {top : Str} {A : List (List Int)} (g : GR w K R top A) {f : List Int} (hf : f ∈ A) : 1 ≤ f.length ∧ ∀ x ∈ f, 0 ≤ x ∧ x < 2 ^ w.toNat := by
  have hp := pow_le g.v.w
  have e1 : redF w f = f := by
    have : A.map (redF w) = A.map id := by rw [g.a, List.map_id]
    exact List.map_inj_left.mp this f hf
  refine ⟨?_, fun x hx => ?_⟩
  · have h1 := g.v.a f hf
    have h2 := sz_bd (fun k hk => (g.v.k.at1 k hk).2) g.v.t
    omega
  · rw [← e1] at hx
    obtain ⟨y, _, rfl⟩ := List.mem_map.mp hx
    exact ⟨Int.emod_nonneg _ (by omega), Int.emod_lt_of_pos _ (by omega)⟩
theorem answers_of_yes {S : Sto} {b : Bool} {w : Int} {K : List Kd} {R : List Ru} {top : Str} {A : List (List Int)} (hS : stOk S = true) (g : GR w K R top A) {T : List Stp} {ks : List Str} (h : TrOk R T (ks ++ [top])) (h1 : T.length ≤ 2000) {L : List (List Int)} {st : List Int} (e : alongV w R T = L ++ [st]) :
    Ret (m_answers_of [Gr w K R top A, sq b (T.map Stp.e)] S) fun v S1 => v = .ref S.length ∧ S1 = S ++ [.lst ((A.map (fv w st)).map ie)] := by
  have hw := g.v.w
  have hts := g.v.str g.v.t
  unfold m_answers_of b_answers_of
  refine w_run ?_
  walk_at "wp"
  refine (kind_of_ok hS g.v h h1).mono ?_
  rintro _ _ ⟨rfl, rfl⟩
  walk_at "wp"
  refine ⟨_, f_neS hts hts, ?_⟩
  walk_at "wp"
  refine w_nno rfl ?_
  walk_at "wp"
  refine (values_along_ok g h h1).mono ?_
  rintro _ _ ⟨rfl, rfl⟩
  walk_at "wp"
  rw [e]
  refine ⟨_, f_ixL at_last, ?_⟩
  walk_at "wp"
  refine comp_pure Fm.e (fun f => .int (fv w st f)) A (fun f hf => ⟨_, rfl, ?_⟩) ?_
  · walk_at "wp"
    exact form2_ok hw (g.fm hf).1 (g.fm hf).2
  refine ⟨rfl, ?_⟩
  rw [List.map_map]
  rfl
theorem answers_of_no {S : Sto} {b : Bool} {w : Int} {K : List Kd} {R : List Ru} {top : Str} {A : List (List Int)} (hS : stOk S = true) (g : GR w K R top A) {T : List Stp} {ks : List Str} {k : Str} (h : TrOk R T (ks ++ [k])) (h1 : T.length ≤ 2000) (hk : k ≠ top) :
    Exc (m_answers_of [Gr w K R top A, sq b (T.map Stp.e)] S) 1 ["kind"] [.str k] fun S1 => S1 = S := by
  have hks := g.v.kstr h (k := k) (by simp)
  unfold m_answers_of b_answers_of
  refine x_run (x_seq ?_)
  walk_at "wp"
  refine (kind_of_ok hS g.v h h1).mono ?_
  rintro _ _ ⟨rfl, rfl⟩
  refine ⟨_, rfl, x_seq1 (x_ifT ?_)⟩
  walk_at "wp"
  refine ⟨_, f_neS hks (g.v.str g.v.t), ?_⟩
  walk_at "wp"
  refine ⟨by simp [hk], x_rai ?_⟩
  walk_at "wp"
  exact ⟨rfl, rfl⟩
theorem told_yes {S : Sto} {b : Bool} {w : Int} {K : List Kd} {R : List Ru} {top : Str} {A : List (List Int)} (hS : stOk S = true) (g : GR w K R top A) {T : List Stp} {ks : List Str} (h : TrOk R T (ks ++ [top])) (h1 : T.length ≤ 2000) {L : List (List Int)} {st : List Int} (e : alongV w R T = L ++ [st]) :
    Ret (m__law_told [Gr w K R top A, sq b (T.map Stp.e)] S) fun v S1 => v = .ref S.length ∧ S1 = S ++ [.lst ((A.map (fv w st)).map ie)] := by
  unfold m__law_told b__law_told
  refine w_run ?_
  walk_at "wp"
  refine w_qtry ?_
  walk_at "wp"
  refine (answers_of_yes hS g h h1 e).mono ?_
  rintro _ _ ⟨rfl, rfl⟩
  walk_at "wp"
  exact ⟨rfl, rfl⟩
theorem told_no {S : Sto} {b : Bool} {w : Int} {K : List Kd} {R : List Ru} {top : Str} {A : List (List Int)} (hS : stOk S = true) (g : GR w K R top A) {T : List Stp} {ks : List Str} {k : Str} (h : TrOk R T (ks ++ [k])) (h1 : T.length ≤ 2000) (hk : k ≠ top) :
    Ret (m__law_told [Gr w K R top A, sq b (T.map Stp.e)] S) fun v S1 => v = .str k ∧ S1 = S := by
  unfold m__law_told b__law_told
  refine w_run ?_
  walk_at "wp"
  refine w_qtryX (n := 1) (ns := ["kind"]) (xs := [.str k]) rfl (Nat.le_of_ble_eq_true rfl) ?_
  walk_at "wp"
  obtain ⟨S1, e, rfl⟩ := answers_of_no (b := b) hS g h h1 hk
  refine ⟨_, e, _, _, rfl, ?_⟩
  walk_at "wp"
  exact ⟨rfl, rfl⟩
end G06

set_option Elab.async false
set_option linter.all false
set_option maxRecDepth 100000
set_option autoImplicit false
set_option maxHeartbeats 4000000
namespace G06
open PySem PySem.Spec L2 Dm
local macro_rules | `(tactic| walk_at "wp") => `(tactic| (repeat (first | ((with_reducible apply w_var); exact rfl) | with_reducible refine w_c ?_ | with_reducible refine w_bin ?_ | with_reducible refine w_cB ?_ | with_reducible refine w_tv ?_ | with_reducible refine w_cons ?_ | with_reducible refine w_nil ?_ | with_reducible refine w_lst ?_ | with_reducible refine w_call ?_ | with_reducible refine w_make ?_ | with_reducible refine w_orT ?_ | with_reducible refine w_notT ?_ | with_reducible refine w_isi ?_ | with_reducible refine w_sl ?_ | with_reducible refine w_oN ?_ | with_reducible refine w_oS ?_ | with_reducible refine w_seqI ?_ | with_reducible refine w_rng2 ?_ | with_reducible refine w_rng1 ?_ | with_reducible refine w_enI ?_ | ((with_reducible apply w_comp); exact rfl) | with_reducible refine w_assoc ?_ | with_reducible refine w_qnil ?_ | with_reducible refine w_qset ?_ | with_reducible refine w_qnew ?_ | with_reducible refine w_qret ?_ | with_reducible refine w_qif ?_ | with_reducible refine w_qappRr ?_ | with_reducible refine w_appRr ?_ | with_reducible refine w_qunp ?_ | with_reducible refine w_qfor ?_ | with_reducible refine w_for ?_ | with_reducible refine w_nilS ?_ | with_reducible refine w_ret ?_ | with_reducible refine w_ifS ?_ | with_reducible refine w_set ?_ | with_reducible refine ⟨_, f_add, ?_⟩ | with_reducible refine ⟨_, f_sub, ?_⟩ | with_reducible refine ⟨_, f_cmp, ?_⟩ | with_reducible refine ⟨_, f_neI, ?_⟩ | with_reducible refine ⟨_, f_eqI, ?_⟩ | with_reducible refine ⟨_, f_int, ?_⟩ | with_reducible refine ⟨_, f_intB, ?_⟩ | with_reducible refine ⟨_, f_lenL, ?_⟩ | with_reducible refine ⟨_, f_lenT, ?_⟩ | with_reducible refine ⟨_, f_tupL, ?_⟩ | with_reducible refine ⟨_, f_tupT, ?_⟩ | with_reducible refine ⟨_, f_lenQ, ?_⟩ | with_reducible refine ⟨_, tyQ, ?_⟩ | with_reducible refine ⟨_, seqQ, ?_⟩ | with_reducible refine ⟨_, tupQ, ?_⟩ | with_reducible refine ⟨_, _, rfl, seqQ, ?_⟩ | with_reducible refine ⟨_, _, rfl, rfl, ?_⟩ | with_reducible refine ⟨_, _, _, rfl, rfl, ?_⟩ | with_reducible refine ⟨_, _, _, _, rfl, rfl, rfl, ?_⟩ | with_reducible refine ⟨_, f_slL, ?_⟩ | with_reducible refine ⟨_, f_slT, ?_⟩ | ((with_reducible refine ⟨_, f_mod ?_, ?_⟩); (first | assumption | omega | decide)) | ((with_reducible refine ⟨_, f_mul ?_, ?_⟩); omega) | ((with_reducible refine ⟨_, f_pow ?_, ?_⟩); (first | omega | decide)) | with_reducible refine ⟨_, rfl, ?_⟩ | ((with_reducible refine ⟨_, f_lenS ?_, ?_⟩); omega) | with_reducible refine ret_ok.mpr ?_ | refine w_yes rfl ?_ | refine w_no rfl ?_ | ((with_reducible refine w_yes (decide_eq_true ?_) ?_); omega) | ((with_reducible refine w_no (decide_eq_false ?_) ?_); omega) | ((with_reducible refine w_nyes ?_ ?_); omega) | ((with_reducible refine w_nno ?_ ?_); omega))))
theorem fold_pre {α β : Type} (f : List β → α → β) : ∀ (T : List α) (acc : List β), ∃ M, T.foldl (fun acc s => acc ++ [f acc s]) acc = acc ++ M
  | [], acc => ⟨[], by simp⟩
  | s :: T, acc => by
    obtain ⟨M, e⟩ := fold_pre f T (acc ++ [f acc s])
    exact ⟨f acc s :: M, by rw [List.foldl_cons, e]; simp⟩
theorem alongV_at {w : Int} {R : List Ru} {T : List Stp} {j : Nat} {s : Stp} (hs : T[j]? = some s) (hl : (alongV w R (T.take j)).length = j) : (alongV w R T)[j]? = some (stepV w R (alongV w R (T.take j)) s) := by
  have e : T = (T.take j ++ [s]) ++ T.drop (j + 1) := by
    rw [← take_next hs, List.take_append_drop]
  obtain ⟨M, hM⟩ := fold_pre (stepV w R) (T.drop (j + 1)) (alongV w R (T.take j ++ [s]))
  have : alongV w R T = alongV w R (T.take j ++ [s]) ++ M := by
    rw [← hM]
    conv => lhs; rw [e]
    unfold alongV
    rw [List.foldl_append]
  rw [this, alongV_snoc, List.getElem?_append_left (by rw [List.length_append, hl, List.length_singleton]; omega), List.getElem?_append_right (by omega), hl, Nat.sub_self]
  rfl
theorem okFm (l : List Int) : okD (Fm.e l) = true := all_map ie fun _ _ => rfl
theorem okLs (l : List Int) : okD (.lst (l.map ie)) = true := all_map ie fun _ _ => rfl
theorem look_at {S : Sto} {m : Nat} {x : Vl} (h : S[m]? = some x) : look S (.ref m) = x := by
  unfold look
  dsimp only
  rw [h]
  rfl
theorem f_neR {S : Sto} {m : Nat} {l : List Int} (h : S[m]? = some (.lst (l.map ie))) : neF S (.ref m) (.lst (l.map ie)) = some (.bl false) := by
  have lk := look_at h
  have e2 : look S (.lst (l.map ie)) = .lst (l.map ie) := rfl
  rw [f_ne (by rw [lk]; exact okLs l) (by rw [e2]; exact okLs l), lk, e2, eqv_self (okLs l)]
  rfl
theorem nl_ints (l : List Int) : nlO (.lst (l.map ie)) = true := nlBs_map ie (fun _ => rfl) l
theorem right_ok {S : Sto} {n : Nat} (h : Wl S n) : Ret (m__law_right [.ref n] S) fun v S1 => v = .bl true ∧ stOk S1 = true := by
  unfold m__law_right b__law_right
  refine w_run ?_
  walk_at "wp"
  refine (one_ok h (by simp) (by decide)).mono fun v S1 ⟨hm, hW⟩ => ?_
  have hi : ∃ w : Int, v = .int w ∧ 1 ≤ w ∧ w ≤ 64 := by
    simp at hm
    rcases hm with rfl | rfl | rfl | rfl | rfl <;> exact ⟨_, rfl, by decide, by decide⟩
  obtain ⟨w, rfl, hw⟩ := hi
  clear hm
  have hp := pow_le hw
  walk_at "wp"
  refine (kinds_ok hW).mono fun v S1 ⟨⟨K, hv, hK⟩, hW⟩ => ?_
  subst hv
  walk_at "wp"
  refine (rules_ok hW hw hK).mono fun v S1 ⟨⟨R, hv, hR, r1, r2⟩, hW⟩ => ?_
  subst hv
  walk_at "wp"
  refine (one_ok hW (fun z => hK.ok.l0 (by simpa using z)) (by rw [List.length_map]; have := hK.l1; omega)).mono fun v S1 ⟨hm, hW⟩ => ?_
  obtain ⟨kt, hkt, rfl⟩ := List.mem_map.mp hm
  have ht : kt.1 ∈ K.map (·.1) := List.mem_map_of_mem hkt
  walk_at "wp"
  refine (answers_ok hW hw hK ht).mono fun v S1 ⟨⟨A, hv, a1, a2, hA⟩, hW⟩ => ?_
  subst hv
  have gv := gv_of hw hK hR r1 r2 ht a1 a2 hA
  have g : GR w K R kt.1 A := ⟨gv, hR.red, fm_red hA⟩
  generalize kt.1 = top at *
  walk_at "wp"
  refine (mk_ok (b1 := false) (b2 := false) (b3 := false) hW.st g).mono ?_
  rintro _ S2 ⟨rfl, rfl⟩
  walk_at "wp"
  refine (grown_ok hW gv).mono fun v S3 ⟨⟨T, ks, hv, tr, hT⟩, hW⟩ => ?_
  subst hv
  refine ⟨_, rfl, rfl, ?_⟩
  walk_at "wp"
  refine (along_ok g tr (by omega)).mono ?_
  rintro _ S4 ⟨rfl, rfl⟩
  have hkl := tr.len
  walk_at "wp"
  rw [List.length_map]
  refine ⟨_, _, rfl, ⟨⟨by decide, by decide, by omega, by omega⟩, by omega⟩, ?_⟩
  refine (loop_ret (fun k env S => stOk S = true ∧ ∃ (s10 s11 s12 s13 : Sv), env = [.v (.ref n), .v (.int w), .v (.lst (K.map Kd.e)), .v (.lst (R.map Ru.e)), .v (.str top), .v (.lst (A.map Fm.e)), .v (Gr w K R top A), .v (.lst (T.map Stp.e)), .v (.lst (ks.map .str)), .v (.lst ((alongV w R T).map Fm.e)), s10, s11, s12, s13, .un]) _ 0 _ _ ⟨hW.st, _, _, _, _, rfl⟩ ?_).mono ?_
  · rintro j x env S5 hx ⟨hS, s10, s11, s12, s13, rfl⟩
    obtain ⟨hj, rfl⟩ := rgI_at2 hx
    have hjT : j < T.length := by omega
    have hs : T[j]? = some (T[j]'hjT) := List.getElem?_eq_getElem hjT
    generalize T[j]'hjT = s at hs
    obtain ⟨r, st, hk⟩ := tr.at hs
    have hT1 : T.take (j + 1) = T.take j ++ [s] := take_next hs
    have hk1 : ks.take (j + 1) = ks.take j ++ [r.kd] := take_next hk
    have trj : TrOk R (T.take (j + 1)) (ks.take j ++ [r.kd]) := by
      rw [← hk1]
      exact tr.take (j + 1)
    have av := av_ok g (tr.take j)
    have hal : (alongV w R (T.take j)).length = j := by
      rw [av.len, List.length_take]
      omega
    have ea : alongV w R (T.take (j + 1)) = alongV w R (T.take j) ++ [stepV w R (alongV w R (T.take j)) s] := by
      rw [hT1, alongV_snoc]
    have hat : (alongV w R T)[j]? = some (stepV w R (alongV w R (T.take j)) s) := alongV_at hs hal
    generalize stepV w R (alongV w R (T.take j)) s = sv at ea hat
    have en : ndV (T.take (j + 1)) = ndV (T.take j) ++ [ndS (ndV (T.take j)) s] := by
      rw [hT1, ndV_snoc]
    generalize ndS (ndV (T.take j)) s = nd at en
    have h0 : T.take (j + 1) ≠ [] := by
      rw [hT1]
      simp
    have hl2 : (T.take (j + 1)).length ≤ 2000 := by
      rw [List.length_take]
      omega
    have ej : (1 + (j : Int) - 1) = (j : Int) := by omega
    have hkm : r.kd ∈ ks := List.mem_of_getElem? hk
    have hks := gv.kstr tr hkm
    have hts := gv.str ht
    have ec : cutL (T.map Stp.e) none (some (1 + (j : Int))) = (T.take (j + 1)).map Stp.e := by
      rw [show (1 + (j : Int)) = ((j + 1 : Nat) : Int) from by omega]
      exact cut_to (by omega)
    refine ⟨_, rfl, ?_⟩
    walk_at "wp"
    rw [ec]
    refine (value_ok (b := false) hS g trj h0 hl2 ea).mono ?_
    rintro _ _ ⟨rfl, rfl⟩
    walk_at "wp"
    rw [ej]
    refine ⟨_, f_ixL (lst_at hat), ?_⟩
    refine ⟨_, f_neSame (okFm sv), ?_⟩
    walk_at "wp"
    refine (kind_of_ok (b := false) hS gv trj hl2).mono ?_
    rintro _ _ ⟨rfl, rfl⟩
    walk_at "wp"
    rw [ej]
    refine ⟨_, f_ixL (lst_at hk), ?_⟩
    refine ⟨_, f_neS hks hks, ?_⟩
    walk_at "wp"
    refine w_nno rfl ?_
    walk_at "wp"
    refine (count_nodes_ok (b := true) hS g trj h0 hl2 en).mono ?_
    rintro _ _ ⟨rfl, rfl⟩
    walk_at "wp"
    refine (nodes_ok trj hl2 en).mono ?_
    rintro _ _ ⟨rfl, rfl⟩
    walk_at "wp"
    rw [ej]
    refine ⟨_, f_ixL (lst_at hk), ?_⟩
    walk_at "wp"
    refine ⟨_, f_eqS hks hts, ?_⟩
    walk_at "wp"
    refine ⟨fun hd => ?_, fun hd => ?_⟩
    · have hd' : r.kd = top := of_decide_eq_true hd
      rw [hd'] at trj
      have ed : A.map (fun f => Vl.int (fv w sv f)) = (A.map (fv w sv)).map ie := by
        rw [List.map_map]
        rfl
      walk_at "wp"
      refine comp_pure Fm.e (fun f => .int (fv w sv f)) A (fun f hf => ⟨_, rfl, ?_⟩) ?_
      · walk_at "wp"
        rw [ej]
        refine ⟨_, f_ixL (lst_at hat), ?_⟩
        walk_at "wp"
        exact form1_ok hw (g.fm hf).1 (g.fm hf).2
      rw [ed]
      walk_at "wp"
      refine (told_yes (b := false) hS g trj hl2 ea).mono ?_
      rintro _ _ ⟨rfl, rfl⟩
      rename_i S6
      have hm : (S6 ++ [Vl.lst ((A.map (fv w sv)).map ie)])[S6.length]? = some (.lst ((A.map (fv w sv)).map ie)) := by simp
      have hS2 := st_push hS (nl_ints (A.map (fv w sv)))
      generalize S6 ++ [Vl.lst ((A.map (fv w sv)).map ie)] = S7 at hm hS2
      walk_at "wp"
      refine ⟨_, f_neR hm, ?_⟩
      walk_at "wp"
      refine ⟨.lst, by unfold tyOf; rw [look_at hm], ?_⟩
      walk_at "wp"
      refine w_qappR rfl hm ?_
      walk_at "wp"
      refine ⟨_, hm, by rw [List.length_map, List.length_map]; omega, ?_⟩
      have hS3 : stOk (S7.set S6.length (.lst ((A.map (fv w sv)).map ie ++ [Vl.non]))) = true := st_set hS2 (by
        show nlBs ((A.map (fv w sv)).map ie ++ [Vl.non]) = true
        have : ∀ l : List Int, nlBs (l.map ie ++ [Vl.non]) = true := fun l => by
          induction l with
          | nil => rfl
          | cons a l ih => exact ih
        exact this _)
      generalize S7.set S6.length (.lst ((A.map (fv w sv)).map ie ++ [Vl.non])) = S8 at hS3
      walk_at "wp"
      refine (answers_of_yes (b := true) hS3 g trj hl2 ea).mono ?_
      rintro _ _ ⟨rfl, rfl⟩
      have hm2 : (S8 ++ [Vl.lst ((A.map (fv w sv)).map ie)])[S8.length]? = some (.lst ((A.map (fv w sv)).map ie)) := by simp
      have hS4 := st_push hS3 (nl_ints (A.map (fv w sv)))
      generalize S8 ++ [Vl.lst ((A.map (fv w sv)).map ie)] = S9 at hm2 hS4
      walk_at "wp"
      refine ⟨_, f_neR hm2, ?_⟩
      walk_at "wp"
      exact ⟨_, .inl rfl, hS4, _, _, _, _, rfl⟩
    · have hd' : ¬ r.kd = top := of_decide_eq_false hd
      walk_at "wp"
      refine (told_no (b := false) hS g trj hl2 hd').mono ?_
      rintro _ _ ⟨rfl, rfl⟩
      walk_at "wp"
      refine ⟨_, f_neS hks hks, ?_⟩
      walk_at "wp"
      refine w_nno rfl ?_
      walk_at "wp"
      exact ⟨_, .inl rfl, hS, _, _, _, _, rfl⟩
  · rintro _ S5 ⟨_, rfl, hS, s10, s11, s12, s13, rfl⟩
    walk_at "wp"
    exact ⟨rfl, hS⟩
theorem law_ok (ns : List Int) (hl : ns.length ≤ 63) : ∃ S, m_law [.scr ns] [] = .ok (.bl true) S := by
  have main : Ret (m_law [.scr ns] []) fun v _ => v = .bl true := by
    unfold m_law b_law
    refine w_run ?_
    walk_at "wp"
    refine ⟨_, if_pos (by simp; omega), ?_⟩
    walk_at "wp"
    have ec : cutL (ns.map Vl.int ++ [Vl.int 0]) none (some 5) = ((ns ++ [0]).take 5).map .int := by
      have e1 : ns.map Vl.int ++ [Vl.int 0] = (ns ++ [0]).map .int := by simp
      rw [e1]
      unfold cutL
      rw [HT.sIx_none, List.drop_zero, Nat.sub_zero, List.map_take]
      show List.take (min 5 ((ns ++ [0]).map Vl.int).length) _ = _
      rw [List.take_eq_take_min (i := 5), Nat.min_comm]
    rw [ec]
    refine (loop_ret (fun k env S => stOk S = true ∧ ∃ s1 s2 s3 : Sv, env = [.v (.scr ns), s1, s2, s3]) _ 0 _ _ ⟨rfl, _, _, _, rfl⟩ ?_).mono ?_
    · rintro j x env S hx ⟨hS, s1, s2, s3, rfl⟩
      obtain ⟨y, hy, rfl⟩ := enL_at hx
      obtain ⟨c, hc, rfl⟩ := map_at hy
      have hj := (List.getElem?_eq_some_iff.mp hc).1
      rw [List.length_take] at hj
      refine ⟨_, rfl, ?_⟩
      walk_at "wp"
      refine (right_ok ⟨st_push hS rfl, _, _, _, by rw [List.getElem?_append_right (Nat.le_refl _), Nat.sub_self]; rfl⟩).mono ?_
      rintro _ S1 ⟨rfl, hW⟩
      walk_at "wp"
      exact ⟨_, .inl rfl, hW, _, _, _, rfl⟩
    · rintro _ S ⟨e, rfl, hS, s1, s2, s3, rfl⟩
      walk_at "wp"
      rfl
  obtain ⟨v, S, e, rfl⟩ := main
  exact ⟨S, e⟩
end G06

theorem PySem.Challenge.cw_leastattr_k06_whole_trees_and_their_valu_holds : PySem.Challenge.rw_leastattr_k06_whole_trees_and_their_valu.Holds := by
  exact G06.holds G06.law_ok
