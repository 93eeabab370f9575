import PyProof.Rows.All
import Wide.All
import OpenK.AllK
import Wide.FinOn
import HandS.ForMost
import HandS.Walk
import HandS.Exc
import HandS.Lambda
import HandS.ExcInit
import HandS.WordsExc
import HandS.Defaults
import KE.GoesNew
import KE.GoesMore
import HandS.TupAny
import HandS.TupMul
import HandS.Wide
import HandS.IsInst
import HandS.Text
import HandS.MakeKw
import HandS.OwnEq
import HandS.MakeKwOnly
import HandS.Head2
import HandS.HeadEnd
import HandS.HeadHook2
import HandS.EndBits
import PyProof.FactsLen
import HandS.ExcField
import HandS.ExcOwn
import HandS.TryOnly
import HandS.TryMany
import HandS.Dict
import HandS.List
import PyProof.StrOps2
import HandS.Small
import KE.KDictPairs
import HandS.HeadWalk
import PyProof.NeKinds
import HandS.ExcValue
import HandS.ExcBuiltin
import HandS.ExcIs
import KE.KExcIs
import HandS.More
import PyProof.WalksMore
import PyProof.PureInt
import PyProof.Rows.TupDisplay
import KE.KDictCopyH
import HandS.SortOrd
import HandS.SortInts
import KE.KDictKeyed
import HandS.Style
import PySem.Challenge.RW_leastattr_k11_modules_in_steps
set_option Elab.async false
set_option linter.all false
set_option maxRecDepth 100000
set_option autoImplicit false
set_option maxHeartbeats 1000000
/-! Dm: programs as functions over plain data. Values Vl (tuples, lists, dicts, instances by value; shared objects by number), what stands for them in the heap (Rep), what a step may change (Ext). -/
namespace Dm
open PySem PySem.Spec L2

inductive Vl where
  | non | bl (b : Bool) | int (i : Int) | str (x : Str)
  | tup (xs : List Vl) | lst (xs : List Vl)
  | dk (ks : List Key) (xs : List Vl) | dt (ks : List (List Key)) (xs : List Vl)
  | ins (c : Nat) (ns : List Str) (xs : List Vl)
  | ref (n : Nat)
  | scr (ns : List Int)
  | ftp (xs : List Vl)
  | tab (k : Nat) (q : Str)
  | exn (c : Nat) (ns : List Str) (xs : List Vl)
  | fdk (ks : List Key) (xs : List Vl) | fdt (ks : List (List Key)) (xs : List Vl)

/-- the script: locked, or written -/
def RdL (K : PySem.W.Frag) (B : Addr → Prop) (H : Hp) (a : Addr) (vs : List V) : Prop :=
  (Rd H a (.lst vs) ∧ ¬ B a) ∨
    ∃ (o : Obj) (its : Array Value) (n : Nat), K.lookup a = some o ∧ o.cls = .type "list" ∧ o.dict = none ∧ o.data = .seq its n ∧ its.size ≤ sizeLine ∧ Vals vs its.toList
theorem RdL.sq {K : PySem.W.Frag} {B : Addr → Prop} {H : Hp} {a : Addr} {vs : List V} (h : RdL K B H a vs) : SqL K H a vs := by
  rcases h with h | h
  · exact .inl h.1
  · exact .inr h

/-- the class table -/
abbrev Cl := Nat → Addr

/-- a table of code objects of the name q -/
def TabC (B : Addr → Prop) (H : Hp) (q : Str) (ps : Array Value) : Prop := TriplesOk ps.toList ∧ ∀ (pos : Pos) (cv : Value), codeAmong pos ps.toList = some cv → ∃ c, cv = .ref c ∧ H c = some (LamX.CodeO c q) ∧ ¬ B c
mutual
/-- x stands for v -/
inductive Rep (K : PySem.W.Frag) (cl : Cl) (B : Addr → Prop) (μ : List Addr) (H : Hp) : Vl → V → Prop
  | non : Rep K cl B μ H .non .non
  | bl (b : Bool) : Rep K cl B μ H (.bl b) (.bl b)
  | int (i : Int) : Rep K cl B μ H (.int i) (.int i)
  | str (x : Str) : Rep K cl B μ H (.str x) (.str x)
  | tup {xs : List Vl} {a : Addr} {vs : List V} : H a = some (.tup vs) → ¬ B a → Reps K cl B μ H xs vs → Rep K cl B μ H (.tup xs) (.ref a)
  | lst {xs : List Vl} {a : Addr} {vs : List V} : H a = some (.lst vs) → ¬ B a → Reps K cl B μ H xs vs → Rep K cl B μ H (.lst xs) (.ref a)
  | scr {ns : List Int} {a : Addr} : RdL K B H a (ns.map V.int) → Rep K cl B μ H (.scr ns) (.ref a)
  | ftp {xs : List Vl} {a : Addr} {vs : List V} {o : Obj} : H a = some (.frz o (.tup vs)) → o.dict = none → ¬ B a → Reps K cl B μ H xs vs → Rep K cl B μ H (.ftp xs) (.ref a)
  | dk {ks : List Key} {xs : List Vl} {a : Addr} {kvs : List (Key × V)} : H a = some (.dK kvs) → ¬ B a → kvs.map (·.1) = ks → Reps K cl B μ H xs (kvs.map (·.2)) → Rep K cl B μ H (.dk ks xs) (.ref a)
  | dt {ks : List (List Key)} {xs : List Vl} {a : Addr} {kvs : List (List Key × V)} : H a = some (.dT kvs) → ¬ B a → kvs.map (·.1) = ks → Reps K cl B μ H xs (kvs.map (·.2)) → Rep K cl B μ H (.dt ks xs) (.ref a)
  | ins {c : Nat} {ns : List Str} {xs : List Vl} {a dx : Addr} {fs : List (Str × V)} : H a = some (.ins (cl c) dx fs) → ¬ B a → fs.map (·.1) = ns → Reps K cl B μ H xs (fs.map (·.2)) → Rep K cl B μ H (.ins c ns xs) (.ref a)
  | ref {n : Nat} {a : Addr} : μ[n]? = some a → Rep K cl B μ H (.ref n) (.ref a)
  | tab {k : Nat} {q : Str} {a : Addr} {ps : Array Value} : a = cl k → H a = some (.tbl ps) → ¬ B a → TabC B H q ps → Rep K cl B μ H (.tab k q) (.ref a)
  | exn {c : Nat} {ns : List Str} {xs : List Vl} {a d : Addr} {fs : List (Str × V)} : H a = some (exo a (cl c) (some d)) → ¬ B a → H d = some (exd d fs) → ¬ B d → fs.map (·.1) = ns → Reps K cl B μ H xs (fs.map (·.2)) → Rep K cl B μ H (.exn c ns xs) (.ref a)
  | fdk {ks : List Key} {xs : List Vl} {a : Addr} {kvs : List (Key × V)} {o : Obj} : H a = some (.frz o (.dK kvs)) → ¬ B a → kvs.map (·.1) = ks → Reps K cl B μ H xs (kvs.map (·.2)) → Rep K cl B μ H (.fdk ks xs) (.ref a)
  | fdt {ks : List (List Key)} {xs : List Vl} {a : Addr} {kvs : List (List Key × V)} {o : Obj} : H a = some (.frz o (.dT kvs)) → ¬ B a → kvs.map (·.1) = ks → Reps K cl B μ H xs (kvs.map (·.2)) → Rep K cl B μ H (.fdt ks xs) (.ref a)
  | exz {c : Nat} {a : Addr} : H a = some (exo a (cl c) none) → ¬ B a → Rep K cl B μ H (.exn c [] []) (.ref a)
inductive Reps (K : PySem.W.Frag) (cl : Cl) (B : Addr → Prop) (μ : List Addr) (H : Hp) : List Vl → List V → Prop
  | nil : Reps K cl B μ H [] []
  | cons {x : Vl} {xs : List Vl} {v : V} {vs : List V} : Rep K cl B μ H x v → Reps K cl B μ H xs vs → Reps K cl B μ H (x :: xs) (v :: vs)
end
/-- the object o stands at a -/
inductive At (K : PySem.W.Frag) (cl : Cl) (B : Addr → Prop) (μ : List Addr) (H : Hp) (a : Addr) : Vl → Prop
  | lst {xs : List Vl} {vs : List V} : H a = some (.lst vs) → Reps K cl B μ H xs vs → At K cl B μ H a (.lst xs)
  | dk {ks : List Key} {xs : List Vl} {kvs : List (Key × V)} : H a = some (.dK kvs) → kvs.map (·.1) = ks → Reps K cl B μ H xs (kvs.map (·.2)) → At K cl B μ H a (.dk ks xs)
  | dt {ks : List (List Key)} {xs : List Vl} {kvs : List (List Key × V)} : H a = some (.dT kvs) → kvs.map (·.1) = ks → Reps K cl B μ H xs (kvs.map (·.2)) → At K cl B μ H a (.dt ks xs)
  | ins {c : Nat} {ns : List Str} {xs : List Vl} {dx : Addr} {fs : List (Str × V)} : H a = some (.ins (cl c) dx fs) → fs.map (·.1) = ns → Reps K cl B μ H xs (fs.map (·.2)) → At K cl B μ H a (.ins c ns xs)
  | tab {k : Nat} {q : Str} {ps : Array Value} : a = cl k → H a = some (.tbl ps) → TabC B H q ps → At K cl B μ H a (.tab k q)

section
variable {K : PySem.W.Frag} {cl : Cl} {B B' : Addr → Prop} {μ μ' : List Addr} {H H' : Hp}
/-- what Rep leans on is kept -/
structure Kp (B B' : Addr → Prop) (μ μ' : List Addr) (H H' : Hp) : Prop where
  obj : ∀ a o, H a = some o → ¬ B a → H' a = some o ∧ ¬ B' a
  num : ∀ (n : Nat) (a : Addr), μ[n]? = some a → μ'[n]? = some a
theorem Kp.rd (k : Kp B B' μ μ' H H') {a : Addr} {u : HO} (h : Rd H a u) (n : ¬ B a) : Rd H' a u ∧ ¬ B' a := by
  rcases h with h | ⟨o, h⟩
  · exact ⟨.inl (k.obj a _ h n).1, (k.obj a _ h n).2⟩
  · exact ⟨.inr ⟨o, (k.obj a _ h n).1⟩, (k.obj a _ h n).2⟩
theorem Kp.rdL (k : Kp B B' μ μ' H H') {a : Addr} {vs : List V} (h : RdL K B H a vs) : RdL K B' H' a vs := by
  rcases h with h | h
  · exact .inl (k.rd h.1 h.2)
  · exact .inr h
theorem TabC.mono (k : Kp B B' μ μ' H H') {q : Str} {ps : Array Value} (h : TabC B H q ps) : TabC B' H' q ps := ⟨h.1, fun pos cv hc => by
  obtain ⟨c, e1, e2, e3⟩ := h.2 pos cv hc
  exact ⟨c, e1, (k.obj _ _ e2 e3).1, (k.obj _ _ e2 e3).2⟩⟩
mutual
theorem Rep.mono (k : Kp B B' μ μ' H H') : ∀ {x : Vl} {v : V}, Rep K cl B μ H x v → Rep K cl B' μ' H' x v
  | _, _, .non => .non
  | _, _, .bl b => .bl b
  | _, _, .int i => .int i
  | _, _, .str x => .str x
  | _, _, .tup h n r => .tup (k.obj _ _ h n).1 (k.obj _ _ h n).2 (Reps.mono k r)
  | _, _, .lst h n r => .lst (k.obj _ _ h n).1 (k.obj _ _ h n).2 (Reps.mono k r)
  | _, _, .scr h => .scr (k.rdL h)
  | _, _, .ftp h d n r => .ftp (k.obj _ _ h n).1 d (k.obj _ _ h n).2 (Reps.mono k r)
  | _, _, .dk h n e r => .dk (k.obj _ _ h n).1 (k.obj _ _ h n).2 e (Reps.mono k r)
  | _, _, .dt h n e r => .dt (k.obj _ _ h n).1 (k.obj _ _ h n).2 e (Reps.mono k r)
  | _, _, .ins h n e r => .ins (k.obj _ _ h n).1 (k.obj _ _ h n).2 e (Reps.mono k r)
  | _, _, .ref h => .ref (k.num _ _ h)
  | _, _, .tab e h n t => .tab e (k.obj _ _ h n).1 (k.obj _ _ h n).2 (t.mono k)
  | _, _, .exn h n h2 n2 e r => .exn (k.obj _ _ h n).1 (k.obj _ _ h n).2 (k.obj _ _ h2 n2).1 (k.obj _ _ h2 n2).2 e (Reps.mono k r)
  | _, _, .fdk h n e r => .fdk (k.obj _ _ h n).1 (k.obj _ _ h n).2 e (Reps.mono k r)
  | _, _, .fdt h n e r => .fdt (k.obj _ _ h n).1 (k.obj _ _ h n).2 e (Reps.mono k r)
  | _, _, .exz h n => .exz (k.obj _ _ h n).1 (k.obj _ _ h n).2
theorem Reps.mono (k : Kp B B' μ μ' H H') : ∀ {xs : List Vl} {vs : List V}, Reps K cl B μ H xs vs → Reps K cl B' μ' H' xs vs
  | _, _, .nil => .nil
  | _, _, .cons r t => .cons (Rep.mono k r) (Reps.mono k t)
end
theorem Reps.length : ∀ {xs : List Vl} {vs : List V}, Reps K cl B μ H xs vs → xs.length = vs.length
  | _, _, .nil => rfl
  | _, _, .cons _ t => congrArg Nat.succ t.length
theorem Reps.get : ∀ {xs : List Vl} {vs : List V} {i : Nat} {x : Vl}, Reps K cl B μ H xs vs → xs[i]? = some x → ∃ v, vs[i]? = some v ∧ Rep K cl B μ H x v
  | _, _, _, _, .nil, e => by simp at e
  | _, _, 0, _, .cons r _, e => by simp at e; subst e; exact ⟨_, rfl, r⟩
  | _, _, i + 1, x, .cons _ t, e => by
    obtain ⟨v, h1, h2⟩ := t.get (i := i) (x := x) (by simpa using e)
    exact ⟨v, by simpa using h1, h2⟩
theorem Reps.get' : ∀ {xs : List Vl} {vs : List V} {i : Nat} {v : V}, Reps K cl B μ H xs vs → vs[i]? = some v → ∃ x, xs[i]? = some x ∧ Rep K cl B μ H x v
  | _, _, _, _, .nil, e => by simp at e
  | _, _, 0, _, .cons r _, e => by simp at e; subst e; exact ⟨_, rfl, r⟩
  | _, _, i + 1, x, .cons _ t, e => by
    obtain ⟨v, h1, h2⟩ := t.get' (i := i) (v := x) (by simpa using e)
    exact ⟨v, by simpa using h1, h2⟩
theorem Reps.append : ∀ {xs ys : List Vl} {vs ws : List V}, Reps K cl B μ H xs vs → Reps K cl B μ H ys ws → Reps K cl B μ H (xs ++ ys) (vs ++ ws)
  | _, _, _, _, .nil, s => s
  | _, _, _, _, .cons r t, s => .cons r (t.append s)
theorem Reps.snoc {xs : List Vl} {vs : List V} {x : Vl} {v : V} (r : Reps K cl B μ H xs vs) (h : Rep K cl B μ H x v) : Reps K cl B μ H (xs ++ [x]) (vs ++ [v]) := r.append (.cons h .nil)
theorem Reps.take : ∀ {xs : List Vl} {vs : List V} (n : Nat), Reps K cl B μ H xs vs → Reps K cl B μ H (xs.take n) (vs.take n)
  | _, _, 0, _ => .nil
  | _, _, _ + 1, .nil => .nil
  | _, _, n + 1, .cons r t => .cons r (t.take n)
theorem Reps.drop : ∀ {xs : List Vl} {vs : List V} (n : Nat), Reps K cl B μ H xs vs → Reps K cl B μ H (xs.drop n) (vs.drop n)
  | _, _, 0, r => r
  | _, _, _ + 1, .nil => .nil
  | _, _, n + 1, .cons _ t => t.drop n
theorem Reps.set {x : Vl} {v : V} (r : Rep K cl B μ H x v) : ∀ {xs : List Vl} {vs : List V} (i : Nat), Reps K cl B μ H xs vs → Reps K cl B μ H (xs.set i x) (vs.set i v)
  | _, _, _, .nil => .nil
  | _, _, 0, .cons _ t => .cons r t
  | _, _, i + 1, .cons q t => .cons q (Reps.set r i t)
theorem Reps.reverse : ∀ {xs : List Vl} {vs : List V}, Reps K cl B μ H xs vs → Reps K cl B μ H xs.reverse vs.reverse
  | _, _, .nil => .nil
  | _, _, .cons r t => by
    rw [List.reverse_cons, List.reverse_cons]
    exact t.reverse.snoc r
theorem At.mono (k : Kp B B' μ μ' H H') {a : Addr} {x : Vl} (e : ∀ o, H a = some o → H' a = some o) (h : At K cl B μ H a x) : At K cl B' μ' H' a x := by
  cases h with
  | lst h r => exact .lst (e _ h) (r.mono k)
  | dk h q r => exact .dk (e _ h) q (r.mono k)
  | dt h q r => exact .dt (e _ h) q (r.mono k)
  | ins h q r => exact .ins (e _ h) q (r.mono k)
  | tab g h t => exact .tab g (e _ h) (t.mono k)
theorem At.there {a : Addr} {x : Vl} (h : At K cl B μ H a x) : H a ≠ none := by
  cases h with
  | lst h _ => rw [h]; simp
  | dk h _ _ => rw [h]; simp
  | dt h _ _ => rw [h]; simp
  | ins h _ _ => rw [h]; simp
  | tab _ h _ => rw [h]; simp
/-- an object by itself, no more banned -/
theorem At.rep {a : Addr} {x : Vl} (h : At K cl B μ H a x) (n : ¬ B a) : Rep K cl B μ H x (.ref a) := by
  cases h with
  | lst h r => exact .lst h n r
  | dk h q r => exact .dk h n q r
  | dt h q r => exact .dt h n q r
  | ins h q r => exact .ins h n q r
  | tab g h t => exact .tab g h n t
end

/-- an object's content, read in the heap ahead of it -/
inductive Ho (K : PySem.W.Frag) (cl : Cl) (B : Addr → Prop) (μ : List Addr) (H : Hp) : Vl → HO → Prop
  | lst {xs : List Vl} {vs : List V} : Reps K cl B μ H xs vs → Ho K cl B μ H (.lst xs) (.lst vs)
  | dk {ks : List Key} {xs : List Vl} {kvs : List (Key × V)} : kvs.map (·.1) = ks → Reps K cl B μ H xs (kvs.map (·.2)) → Ho K cl B μ H (.dk ks xs) (.dK kvs)
  | dt {ks : List (List Key)} {xs : List Vl} {kvs : List (List Key × V)} : kvs.map (·.1) = ks → Reps K cl B μ H xs (kvs.map (·.2)) → Ho K cl B μ H (.dt ks xs) (.dT kvs)
  | ins {c : Nat} {ns : List Str} {xs : List Vl} {dx : Addr} {fs : List (Str × V)} : fs.map (·.1) = ns → Reps K cl B μ H xs (fs.map (·.2)) → Ho K cl B μ H (.ins c ns xs) (.ins (cl c) dx fs)
theorem Ho.mono {K : PySem.W.Frag} {cl : Cl} {B B' : Addr → Prop} {μ μ' : List Addr} {H H' : Hp} (k : Kp B B' μ μ' H H') {x : Vl} {o : HO} (h : Ho K cl B μ H x o) : Ho K cl B' μ' H' x o := by
  cases h with
  | lst r => exact .lst (r.mono k)
  | dk q r => exact .dk q (r.mono k)
  | dt q r => exact .dt q (r.mono k)
  | ins q r => exact .ins q (r.mono k)
theorem Ho.at {K : PySem.W.Frag} {cl : Cl} {B : Addr → Prop} {μ : List Addr} {H : Hp} {a : Addr} {x : Vl} {o : HO} (e : H a = some o) (h : Ho K cl B μ H x o) : At K cl B μ H a x := by
  cases h with
  | lst r => exact .lst e r
  | dk q r => exact .dk e q r
  | dt q r => exact .dt e q r
  | ins q r => exact .ins e q r
/-! ### the shared objects -/
abbrev Sto := List Vl
/-- banned: shared, or in W -/
def Bn (W : Addr → Prop) (μ : List Addr) : Addr → Prop := fun a => a ∈ μ ∨ W a
/-- there, and no tuple -/
def NT (x : Option HO) : Prop := ∃ o, x = some o ∧ ∀ vs, o ≠ .tup vs
theorem NT.upd {H : Hp} {a p : Addr} {o : HO} (h : NT (H a)) (ho : ∀ vs, o ≠ .tup vs) : NT (upd H p o a) := by
  unfold L2.upd
  split
  · exact ⟨o, rfl, ho⟩
  · exact h
theorem Ho.nt {K : PySem.W.Frag} {cl : Cl} {B : Addr → Prop} {μ : List Addr} {H : Hp} {x : Vl} {o : HO} (h : Ho K cl B μ H x o) : ∀ vs, o ≠ .tup vs := by
  cases h <;> intro vs z <;> cases z
structure Sim (K : PySem.W.Frag) (cl : Cl) (W : Addr → Prop) (μ : List Addr) (S : Sto) (H : Hp) : Prop where
  len : μ.length = S.length
  nd : μ.Nodup
  dis : ∀ a ∈ μ, ¬ W a
  trn : ∀ a, W a → NT (H a)
  obs : ∀ (n : Nat) (x : Vl), S[n]? = some x → ∃ a, μ[n]? = some a ∧ At K cl (Bn W μ) μ H a x
theorem NT.ne {x : Option HO} (h : NT x) : x ≠ none := by
  obtain ⟨o, e, _⟩ := h
  rw [e]
  simp
theorem At.nt {K : PySem.W.Frag} {cl : Cl} {B : Addr → Prop} {μ : List Addr} {H : Hp} {a : Addr} {x : Vl} (h : At K cl B μ H a x) : NT (H a) := by
  cases h with
  | lst h _ => exact ⟨_, h, fun _ z => nomatch z⟩
  | dk h _ _ => exact ⟨_, h, fun _ z => nomatch z⟩
  | dt h _ _ => exact ⟨_, h, fun _ z => nomatch z⟩
  | ins h _ _ => exact ⟨_, h, fun _ z => nomatch z⟩
  | tab _ h _ => exact ⟨_, h, fun _ z => nomatch z⟩
/-- what is banned is there, and no tuple -/
theorem Sim.nts {K : PySem.W.Frag} {cl : Cl} {W : Addr → Prop} {μ : List Addr} {S : Sto} {H : Hp} (s : Sim K cl W μ S H) {a : Addr} (h : Bn W μ a) : NT (H a) := by
  rcases h with h | h
  · obtain ⟨n, hn⟩ := List.getElem?_of_mem h
    have hl : n < S.length := by
      have := (List.getElem?_eq_some_iff.mp hn).1
      rw [s.len] at this; exact this
    obtain ⟨b, e1, e2⟩ := s.obs n _ (List.getElem?_eq_getElem hl)
    rw [hn] at e1; cases e1
    exact e2.nt
  · exact s.trn a h
theorem Sim.trk {K : PySem.W.Frag} {cl : Cl} {W : Addr → Prop} {μ : List Addr} {S : Sto} {H : Hp} (s : Sim K cl W μ S H) (a : Addr) (w : W a) : H a ≠ none := by
  obtain ⟨o, e, _⟩ := s.trn a w
  rw [e]
  simp
/-- what a step may change: shared objects; it may make new ones -/
structure Ext (μ : List Addr) (H : Hp) (μ' : List Addr) (H' : Hp) : Prop where
  keep : ∀ b o, H b = some o → b ∉ μ → H' b = some o
  dom : ∀ b, H b ≠ none → H' b ≠ none
  pre : ∀ (n : Nat) (a : Addr), μ[n]? = some a → μ'[n]? = some a
  new : ∀ a ∈ μ', a ∈ μ ∨ H a = none
theorem Ext.refl {μ : List Addr} {H : Hp} : Ext μ H μ H := ⟨fun _ _ e _ => e, fun _ e => e, fun _ _ e => e, fun _ e => .inl e⟩
theorem Ext.trans {μ μ1 μ2 : List Addr} {H H1 H2 : Hp} (p : Ext μ H μ1 H1) (q : Ext μ1 H1 μ2 H2) : Ext μ H μ2 H2 where
  keep := fun b o e n => q.keep b o (p.keep b o e n) fun z => by
    rcases p.new b z with z | z
    · exact n z
    · rw [e] at z; cases z
  dom := fun b e => q.dom b (p.dom b e)
  pre := fun n a e => q.pre n a (p.pre n a e)
  new := fun a z => by
    rcases q.new a z with z | z
    · exact p.new a z
    · refine .inr ?_
      cases e : H a with
      | none => rfl
      | some o => exact absurd z (p.dom a (by rw [e]; simp))
/-- a new object that is not shared -/
theorem Ext.fresh {μ : List Addr} {H : Hp} {p : Addr} {o : HO} (h : H p = none) : Ext μ H μ (upd H p o) :=
  ⟨fun b u e _ => by rw [upd_ne (ne_of_none e h)]; exact e, fun b e => by unfold upd; split <;> simp_all, fun _ _ e => e, fun _ e => .inl e⟩
theorem Ext.kp {W : Addr → Prop} {μ μ' : List Addr} {H H' : Hp} (e : Ext μ H μ' H') : Kp (Bn W μ) (Bn W μ') μ μ' H H' where
  obj := fun a o h n => by
    have n1 : a ∉ μ := fun z => n (.inl z)
    have n2 : ¬ W a := fun z => n (.inr z)
    refine ⟨e.keep a o h n1, fun z => ?_⟩
    rcases z with z | z
    · rcases e.new a z with z | z
      · exact n1 z
      · rw [h] at z; cases z
    · exact n2 z
  num := e.pre
theorem Sim.fresh {K : PySem.W.Frag} {cl : Cl} {W : Addr → Prop} {μ : List Addr} {S : Sto} {H : Hp} {p : Addr} {o : HO} (s : Sim K cl W μ S H) (h : H p = none) : Sim K cl W μ S (upd H p o) :=
  ⟨s.len, s.nd, s.dis, fun a w => by rw [upd_ne (fun z => s.trk a w (by rw [z]; exact h))]; exact s.trn a w, fun n x e => by
    obtain ⟨a, e1, e2⟩ := s.obs n x e
    exact ⟨a, e1, e2.mono (Ext.fresh h).kp fun o q => by rw [upd_ne (ne_of_none q h)]; exact q⟩⟩
/-- one more is banned -/
def Wa (W : Addr → Prop) (p : Addr) : Addr → Prop := fun b => W b ∨ b = p
theorem Ext.kpBan {W : Addr → Prop} {μ : List Addr} {H : Hp} {p : Addr} {o : HO} (h : H p = none) : Kp (Bn W μ) (Bn (Wa W p) μ) μ μ H (upd H p o) where
  obj := fun a u e n => ⟨by rw [upd_ne (ne_of_none e h)]; exact e, fun z => by
    rcases z with z | z | z
    · exact n (.inl z)
    · exact n (.inr z)
    · exact ne_of_none e h z⟩
  num := fun _ _ e => e
theorem Sim.freshBan {K : PySem.W.Frag} {cl : Cl} {W : Addr → Prop} {μ : List Addr} {S : Sto} {H : Hp} {p : Addr} {o : HO} (s : Sim K cl W μ S H) (h : H p = none) (hm : p ∉ μ) (ho : ∀ vs, o ≠ .tup vs := by first | exact Ho.nt (by assumption) | (intro _ z; cases z)) : Sim K cl (Wa W p) μ S (upd H p o) :=
  ⟨s.len, s.nd, fun a ha z => by
    rcases z with z | z
    · exact s.dis a ha z
    · exact hm (z ▸ ha), fun a w => by
    rcases w with w | w
    · exact (s.trn a w).upd ho
    · rw [w, upd_same]; exact ⟨o, rfl, ho⟩, fun n x e => by
    obtain ⟨a, e1, e2⟩ := s.obs n x e
    exact ⟨a, e1, e2.mono (Ext.kpBan h) fun o q => by rw [upd_ne (ne_of_none q h)]; exact q⟩⟩
/-- less is banned -/
theorem Kp.weak {W W' : Addr → Prop} {μ : List Addr} {H : Hp} (h : ∀ a, W' a → W a) : Kp (Bn W μ) (Bn W' μ) μ μ H H where
  obj := fun a o e n => ⟨e, fun z => n (z.elim .inl fun z => .inr (h a z))⟩
  num := fun _ _ e => e
theorem Sim.weak {K : PySem.W.Frag} {cl : Cl} {W W' : Addr → Prop} {μ : List Addr} {S : Sto} {H : Hp} (s : Sim K cl W μ S H) (h : ∀ a, W' a → W a) : Sim K cl W' μ S H :=
  ⟨s.len, s.nd, fun a ha z => s.dis a ha (h a z), fun a w => s.trn a (h a w), fun n x e => by
    obtain ⟨a, e1, e2⟩ := s.obs n x e
    exact ⟨a, e1, e2.mono (Kp.weak h) fun o q => q⟩⟩
theorem Sim.tracked {K : PySem.W.Frag} {cl : Cl} {W : Addr → Prop} {μ : List Addr} {S : Sto} {H : Hp} (s : Sim K cl W μ S H) {a : Addr} (h : Bn W μ a) : H a ≠ none := by
  rcases h with h | h
  · obtain ⟨n, hn⟩ := List.getElem?_of_mem h
    have hl : n < S.length := by
      have := (List.getElem?_eq_some_iff.mp hn).1
      rw [s.len] at this; exact this
    obtain ⟨b, e1, e2⟩ := s.obs n _ (List.getElem?_eq_getElem hl)
    rw [hn] at e1; cases e1
    exact e2.there
  · exact s.trk a h
theorem Sim.free {K : PySem.W.Frag} {cl : Cl} {W : Addr → Prop} {μ : List Addr} {S : Sto} {H : Hp} (s : Sim K cl W μ S H) {a : Addr} (h : H a = none) : ¬ Bn W μ a := fun z => s.tracked z h
end Dm

set_option Elab.async false
set_option linter.all false
set_option maxRecDepth 100000
set_option autoImplicit false
set_option maxHeartbeats 1000000
/-! Dm2: a body's state; what a mirror's answer gives; the judgements' readings by mirrors. -/
namespace Dm
open PySem PySem.Spec L2

/-- a local name: unset, a value, an object of its own -/
inductive Sv where
  | un | v (x : Vl) | ow (x : Vl) | sf (a : Addr) (x : Vl)

/-- an answer -/
inductive Res (α : Type) where
  | ok (a : α) (S : Sto)
  | exc (c : Nat) (ns : List Str) (xs : List Vl) (S : Sto)
  | bad
def Res.bind {α β : Type} (r : Res α) (k : α → Sto → Res β) : Res β := match r with
  | .ok a S => k a S
  | .exc c ns xs S => .exc c ns xs S
  | .bad => .bad
@[simp] theorem Res.bind_ok {α β : Type} (a : α) (S : Sto) (k : α → Sto → Res β) : (Res.ok a S).bind k = k a S := rfl
@[simp] theorem Res.bind_exc {α β : Type} (c : Nat) (ns : List Str) (xs : List Vl) (S : Sto) (k : α → Sto → Res β) : (Res.exc c ns xs S : Res α).bind k = .exc c ns xs S := rfl
@[simp] theorem Res.bind_bad {α β : Type} (k : α → Sto → Res β) : (Res.bad : Res α).bind k = .bad := rfl
abbrev EM := List Sv → Sto → Res Vl
abbrev TM := List Sv → Sto → Res Bool
abbrev AM := List Sv → Sto → Res (List Vl)

/-- the names -/
def Slot (K : PySem.W.Frag) (cl : Cl) (B : Addr → Prop) (μ : List Addr) (H : Hp) (ω : Option Addr) (e : Sv) (σ : Option V) : Prop := match e with
  | .un => ω = none
  | .v x => ω = none ∧ ∃ v, σ = some v ∧ Rep K cl B μ H x v
  | .ow x => ∃ a, ω = some a ∧ σ = some (.ref a) ∧ At K cl B μ H a x
  | .sf a x => ω = some a ∧ σ = some (.ref a) ∧ At K cl B μ H a x
def Wo (W : Addr → Prop) (ω : List (Option Addr)) : Addr → Prop := fun a => W a ∨ some a ∈ ω
structure Rl (K : PySem.W.Frag) (cl : Cl) (W : Addr → Prop) (ω : List (Option Addr)) (μ : List Addr) (S : Sto) (env : List Sv) (σ : St) (H : Hp) : Prop where
  sim : Sim K cl (Wo W ω) μ S H
  l1 : env.length = σ.length
  l2 : ω.length = σ.length
  at_ : ∀ (i : Nat) (e : Sv) (o : Option Addr) (s : Option V), env[i]? = some e → ω[i]? = some o → σ[i]? = some s → Slot K cl (Bn (Wo W ω) μ) μ H o e s
  od : ∀ (i j : Nat) (a : Addr), ω[i]? = some (some a) → ω[j]? = some (some a) → i = j
  ow : ∀ a, some a ∈ ω → ¬ W a
section
variable {K : PySem.W.Frag} {cl : Cl} {W : Addr → Prop} {ω : List (Option Addr)} {μ μ' : List Addr} {S S' : Sto} {env : List Sv} {σ : St} {H H' : Hp}
theorem Slot.mono {B B' : Addr → Prop} {o : Option Addr} {e : Sv} {s : Option V} (k : Kp B B' μ μ' H H') (ho : ∀ a u, o = some a → H a = some u → H' a = some u) (h : Slot K cl B μ H o e s) : Slot K cl B' μ' H' o e s := by
  cases e with
  | un => exact h
  | v x =>
    obtain ⟨e1, v, e2, r⟩ := h
    exact ⟨e1, v, e2, r.mono k⟩
  | ow x =>
    obtain ⟨a, e1, e2, r⟩ := h
    exact ⟨a, e1, e2, r.mono k fun u q => ho a u e1 q⟩
  | sf a x =>
    obtain ⟨e1, e2, r⟩ := h
    exact ⟨e1, e2, r.mono k fun u q => ho a u e1 q⟩
/-- behind a step of an expression -/
theorem Rl.ext (r : Rl K cl W ω μ S env σ H) (e : Ext μ H μ' H') (s : Sim K cl (Wo W ω) μ' S' H') : Rl K cl W ω μ' S' env σ H' where
  sim := s
  l1 := r.l1
  l2 := r.l2
  at_ := fun i x o s h1 h2 h3 => (r.at_ i x o s h1 h2 h3).mono e.kp fun a u z q => e.keep a u q fun hm => r.sim.dis a hm (.inr (by rw [← z]; exact List.mem_of_getElem? h2))
  od := r.od
  ow := r.ow
theorem Rl.fresh (r : Rl K cl W ω μ S env σ H) {p : Addr} {o : HO} (h : H p = none) : Rl K cl W ω μ S env σ (upd H p o) := r.ext (Ext.fresh h) (r.sim.fresh h)
theorem Rl.slot (r : Rl K cl W ω μ S env σ H) {i : Nat} {e : Sv} (h : env[i]? = some e) : ∃ o s, ω[i]? = some o ∧ σ[i]? = some s ∧ Slot K cl (Bn (Wo W ω) μ) μ H o e s := by
  have hl := (List.getElem?_eq_some_iff.mp h).1
  have h1 : i < ω.length := by rw [r.l2, ← r.l1]; exact hl
  have h2 : i < σ.length := by rw [← r.l1]; exact hl
  exact ⟨_, _, List.getElem?_eq_getElem h1, List.getElem?_eq_getElem h2, r.at_ i e _ _ h (List.getElem?_eq_getElem h1) (List.getElem?_eq_getElem h2)⟩
end

/-- an exception's own dict holds the fields -/
def XFs (K : PySem.W.Frag) (cl : Cl) (B : Addr → Prop) (μ : List Addr) (H : Hp) (d : Addr) (ns : List Str) (xs : List Vl) : Prop :=
  ∃ fs : List (Str × V), H d = some (.xd fs) ∧ fs.map (·.1) = ns ∧ Reps K cl B μ H xs (fs.map (·.2))

/-- what a mirror's answer gives of an expression: from (μ, H) -/
def SatG {α : Type} (K : PySem.W.Frag) (cl : Cl) (W : Addr → Prop) (μ : List Addr) (H : Hp) (r : Res α) (P : α → Sto → List Addr → Hp → Prop) (E : XK) : Prop := match r with
  | .ok a S' => ∀ μ' H', Sim K cl W μ' S' H' → Ext μ H μ' H' → P a S' μ' H'
  | .exc c ns xs S' => ∀ μ' H' d, Sim K cl W μ' S' H' → Ext μ H μ' H' → XFs K cl (Bn W μ') μ' H' d ns xs → E (.ref (cl c)) (some d) H'
  | .bad => False
theorem SatG.bind {α β : Type} {K : PySem.W.Frag} {cl : Cl} {W : Addr → Prop} {μ : List Addr} {H : Hp} {r : Res α} {k : α → Sto → Res β} {P : β → Sto → List Addr → Hp → Prop} {E : XK} (h : SatG K cl W μ H (r.bind k) P E) :
    SatG K cl W μ H r (fun a S1 μ1 H1 => SatG K cl W μ1 H1 (k a S1) (fun b S2 μ2 H2 => P b S2 μ2 H2) E) E := by
  cases r with
  | bad => exact h
  | exc c ns xs S1 => exact h
  | ok a S1 =>
    intro μ1 H1 s1 e1
    have h' : SatG K cl W μ H (k a S1) P E := h
    revert h'
    generalize k a S1 = q
    intro h'
    cases q with
    | bad => exact h'
    | exc c ns xs S2 => exact fun μ2 H2 d s2 e2 x => h' μ2 H2 d s2 (e1.trans e2) x
    | ok b S2 => exact fun μ2 H2 s2 e2 => h' μ2 H2 s2 (e1.trans e2)
theorem SatG.mono {α : Type} {K : PySem.W.Frag} {cl : Cl} {W : Addr → Prop} {μ : List Addr} {H : Hp} {r : Res α} {P P' : α → Sto → List Addr → Hp → Prop} {E : XK} (h : SatG K cl W μ H r P E)
    (m : ∀ a S' μ' H', r = .ok a S' → Sim K cl W μ' S' H' → Ext μ H μ' H' → P a S' μ' H' → P' a S' μ' H') : SatG K cl W μ H r P' E := by
  cases r with
  | bad => exact h
  | exc c ns xs S1 => exact h
  | ok a S1 => exact fun μ' H' s e => m a S1 μ' H' rfl s e (h μ' H' s e)

/-- an expression's reading by its mirror: strict (the value may go anywhere), loose (to be read at once), new (an object that nobody else knows) -/
def tD (K : PySem.W.Frag) (cl : Cl) (E : XK) (m : EM) : TE := fun σ H Q => ∃ W ω μ S env, Rl K cl W ω μ S env σ H ∧
  SatG K cl (Wo W ω) μ H (m env S) (fun x _ μ' H' => ∀ v, Rep K cl (Bn (Wo W ω) μ') μ' H' x v → Q v H') E
/-- banned but for this frame's own objects -/
def tL (K : PySem.W.Frag) (cl : Cl) (E : XK) (m : EM) : TE := fun σ H Q => ∃ W ω μ S env, Rl K cl W ω μ S env σ H ∧
  SatG K cl (Wo W ω) μ H (m env S) (fun x _ μ' H' => ∀ v, (Rep K cl (Bn (Wo W ω) μ') μ' H' x v ∨ ∃ a, v = .ref a ∧ some a ∈ ω ∧ At K cl (Bn (Wo W ω) μ') μ' H' a x) → Q v H') E
def tN (K : PySem.W.Frag) (cl : Cl) (E : XK) (m : EM) : TE := fun σ H Q => ∃ W ω μ S env, Rl K cl W ω μ S env σ H ∧
  SatG K cl (Wo W ω) μ H (m env S) (fun x S' μ' H' => ∀ a, H a = none → Sim K cl (Wa (Wo W ω) a) μ' S' H' → At K cl (Bn (Wa (Wo W ω) a) μ') μ' H' a x → Q (.ref a) H') E
def tDT (K : PySem.W.Frag) (cl : Cl) (E : XK) (m : TM) : TT := fun σ H Q => ∃ W ω μ S env, Rl K cl W ω μ S env σ H ∧
  SatG K cl (Wo W ω) μ H (m env S) (fun b _ _ H' => Q b H') E
def tDA (K : PySem.W.Frag) (cl : Cl) (E : XK) (m : AM) : TA := fun σ H Q => ∃ W ω μ S env, Rl K cl W ω μ S env σ H ∧
  SatG K cl (Wo W ω) μ H (m env S) (fun xs _ μ' H' => ∀ vs, Reps K cl (Bn (Wo W ω) μ') μ' H' xs vs → Q vs H') E

section
variable {X : Cx}
theorem _root_.L2.PE.imp {e : Expr} {t t' : TE} (h : PE X e t) (m : ∀ σ H Q, t' σ H Q → t σ H Q) : PE X e t' := ⟨fun pins s σ H Q I q => h.run pins s σ H Q I (m σ H Q q)⟩
theorem _root_.L2.PT.imp {e : Expr} {t t' : TT} (h : PT X e t) (m : ∀ σ H Q, t' σ H Q → t σ H Q) : PT X e t' := ⟨fun pins s σ H Q I q => h.run pins s σ H Q I (m σ H Q q)⟩
theorem _root_.L2.PW.imp {e : Expr} {t t' : TT} (h : PW X e t) (m : ∀ σ H Q, t' σ H Q → t σ H Q) : PW X e t' := ⟨fun wh pins s σ H Q I q => h.run wh pins s σ H Q I (m σ H Q q)⟩
theorem _root_.L2.PA.imp {e : List Expr} {t t' : TA} (h : PA X e t) (m : ∀ σ H Q, t' σ H Q → t σ H Q) : PA X e t' := ⟨fun pos pins s σ H Q I q => h.run pos pins s σ H Q I (m σ H Q q)⟩
theorem _root_.L2.PS.imp {e : Stmt} {t t' : TS} (h : PS X e t) (m : ∀ D σ H, t' D σ H → t D σ H) : PS X e t' := ⟨fun pins s σ H D I q => h.run pins s σ H D I (m D σ H q)⟩
theorem _root_.L2.PSs.imp {e : List Stmt} {t t' : TS} (h : PSs X e t) (m : ∀ D σ H, t' D σ H → t D σ H) : PSs X e t' := ⟨fun pins s σ H D I q => h.run pins s σ H D I (m D σ H q)⟩
variable {cl : Cl} {E : XK} {e : Expr} {m : EM}
/-- strict is loose -/
theorem sl (h : PE X e (tD X.K cl E m)) : PE X e (tL X.K cl E m) := h.imp fun σ H Q ⟨W, ω, μ, S, env, r, q⟩ =>
  ⟨W, ω, μ, S, env, r, q.mono fun x S' μ' H' _ _ _ k v rv => k v (.inl rv)⟩
/-- new is strict -/
theorem ns (h : PE X e (tN X.K cl E m)) : PE X e (tD X.K cl E m) := h.imp fun σ H Q ⟨W, ω, μ, S, env, r, q⟩ =>
  ⟨W, ω, μ, S, env, r, q.mono fun x S' μ' H' _ s _ k a ha sb at_ => k (.ref a) ((at_.mono (Kp.weak fun _ z => .inl z) fun _ q => q).rep fun z => z.elim (fun z => sb.dis a z (.inr rfl)) fun z => r.sim.trk a z ha)⟩
theorem nl (h : PE X e (tN X.K cl E m)) : PE X e (tL X.K cl E m) := sl (ns h)

/-! ### names, constants -/
def varM (i : Nat) : EM := fun env S => match env[i]? with
  | some (.v x) => .ok x S
  | _ => .bad
def varL (i : Nat) : EM := fun env S => match env[i]? with
  | some (.v x) => .ok x S
  | some (.ow x) => .ok x S
  | some (.sf _ x) => .ok x S
  | _ => .bad
def cM (x : Vl) : EM := fun _ S => .ok x S
theorem de_var {i : Nat} (h : PE X e (tVar i)) : PE X e (tD X.K cl E (varM i)) := h.imp fun σ H Q ⟨W, ω, μ, S, env, r, q⟩ => by
  unfold varM at q
  cases he : env[i]? with
  | none => rw [he] at q; exact q.elim
  | some z =>
    rw [he] at q
    cases z with
    | un => exact q.elim
    | ow x => exact q.elim
    | sf a x => exact q.elim
    | v x =>
      obtain ⟨o, s, h1, h2, _, v, h4, h5⟩ := r.slot he
      subst h4
      exact ⟨v, h2, q μ H r.sim Ext.refl v h5⟩
theorem de_varL {i : Nat} (h : PE X e (tVar i)) : PE X e (tL X.K cl E (varL i)) := h.imp fun σ H Q ⟨W, ω, μ, S, env, r, q⟩ => by
  unfold varL at q
  cases he : env[i]? with
  | none => rw [he] at q; exact q.elim
  | some z =>
    rw [he] at q
    cases z with
    | un => exact q.elim
    | ow x =>
      obtain ⟨o, s, h1, h2, a, h3, h4, h5⟩ := r.slot he
      subst h4
      exact ⟨.ref a, h2, q μ H r.sim Ext.refl _ (.inr ⟨a, rfl, by rw [← h3]; exact List.mem_of_getElem? h1, h5⟩)⟩
    | sf a x =>
      obtain ⟨o, s, h1, h2, h3, h4, h5⟩ := r.slot he
      subst h4
      exact ⟨.ref a, h2, q μ H r.sim Ext.refl _ (.inr ⟨a, rfl, by rw [← h3]; exact List.mem_of_getElem? h1, h5⟩)⟩
    | v x =>
      obtain ⟨o, s, h1, h2, _, v, h4, h5⟩ := r.slot he
      subst h4
      exact ⟨v, h2, q μ H r.sim Ext.refl v (.inl h5)⟩
/-- a constant: its value needs no heap -/
theorem de_c {x : Vl} {v : V} (h : PE X e (tC v)) (hr : ∀ B μ H, Rep X.K cl B μ H x v) : PE X e (tD X.K cl E (cM x)) := h.imp fun σ H Q ⟨W, ω, μ, S, env, r, q⟩ => q μ H r.sim Ext.refl v (hr _ _ _)
theorem de_int {i : Int} {j : Nat} {pos : Pos} : PE X (.Constant (.int i) j pos) (tD X.K cl E (cM (.int i))) := de_c pe_int fun _ _ _ => .int i
theorem de_str {i : Str} {j : Nat} {pos : Pos} : PE X (.Constant (.str i) j pos) (tD X.K cl E (cM (.str i))) := de_c pe_str fun _ _ _ => .str i
theorem de_bl {i : Bool} {j : Nat} {pos : Pos} : PE X (.Constant (.bool i) j pos) (tD X.K cl E (cM (.bl i))) := de_c pe_bl fun _ _ _ => .bl i
theorem de_non {j : Nat} {pos : Pos} : PE X (.Constant .none j pos) (tD X.K cl E (cM .non)) := de_c pe_non fun _ _ _ => .non

/-! ### operators by values -/
/-- the loose relation of a value -/
def RepL (K : PySem.W.Frag) (cl : Cl) (W : Addr → Prop) (ω : List (Option Addr)) (μ : List Addr) (H : Hp) (x : Vl) (v : V) : Prop :=
  Rep K cl (Bn (Wo W ω) μ) μ H x v ∨ ∃ a, v = .ref a ∧ some a ∈ ω ∧ At K cl (Bn (Wo W ω) μ) μ H a x
theorem RepL.mono {K : PySem.W.Frag} {W : Addr → Prop} {ω : List (Option Addr)} {μ μ' : List Addr} {S : Sto} {H H' : Hp} {x : Vl} {v : V} (s : Sim K cl (Wo W ω) μ S H) (e : Ext μ H μ' H') (h : RepL K cl W ω μ H x v) : RepL K cl W ω μ' H' x v := by
  rcases h with h | ⟨a, e1, e2, e3⟩
  · exact .inl (h.mono e.kp)
  · exact .inr ⟨a, e1, e2, e3.mono e.kp fun o q => e.keep a o q fun z => s.dis a z (.inr e2)⟩
abbrev F2 := Sto → Vl → Vl → Option Vl
def bin2 (f : F2) (a b : EM) : EM := fun env S => (a env S).bind fun x S1 => (b env S1).bind fun y S2 => match f S2 x y with
  | some v => .ok v S2
  | none => .bad
/-- f's answer is what the rule r gives; the value is made new or is an old one -/
def Op2 (X : Cx) (cl : Cl) (r : R2) (f : F2) : Prop := ∀ (W : Addr → Prop) (ω : List (Option Addr)) (μ : List Addr) (S : Sto) (H : Hp) (x y z : Vl) (v u : V) (Q : VK), Sim X.K cl (Wo W ω) μ S H → RepL X.K cl W ω μ H x v → RepL X.K cl W ω μ H y u →
  f S x y = some z → (∀ H' v', Sim X.K cl (Wo W ω) μ S H' → Ext μ H μ H' → Rep X.K cl (Bn (Wo W ω) μ) μ H' z v' → Q v' H') → r v u H Q
/-- .. a new object -/
def Op2N (X : Cx) (cl : Cl) (r : R2) (f : F2) : Prop := ∀ (W : Addr → Prop) (ω : List (Option Addr)) (μ : List Addr) (S : Sto) (H : Hp) (x y z : Vl) (v u : V) (Q : VK), Sim X.K cl (Wo W ω) μ S H → RepL X.K cl W ω μ H x v → RepL X.K cl W ω μ H y u →
  f S x y = some z → (∀ a o, H a = none → Ho X.K cl (Bn (Wo W ω) μ) μ H z o → Q (.ref a) (upd H a o)) → r v u H Q
theorem fresh_back {μ μ' : List Addr} {H H' : Hp} (e : Ext μ H μ' H') {a : Addr} (h : H' a = none) : H a = none := by
  cases q : H a with
  | none => rfl
  | some o => exact absurd h (e.dom a (by rw [q]; simp))
theorem de_bin_t {ma mb : EM} {r : R2} {f : F2} (hf : Op2 X cl r f) {σ : St} {H : Hp} {Q : VK} (h : tD X.K cl E (bin2 f ma mb) σ H Q) : tOp r (tL X.K cl E ma) (tL X.K cl E mb) σ H Q := by
  obtain ⟨W, ω, μ, S, env, rl, q⟩ := h
  refine ⟨W, ω, μ, S, env, rl, q.bind.mono fun x S1 μ1 H1 _ s1 e1 q1 v rv => ?_⟩
  refine ⟨W, ω, μ1, S1, env, rl.ext e1 s1, q1.bind.mono fun y S2 μ2 H2 _ s2 e2 q2 u ru => ?_⟩
  cases hz : f S2 x y with
  | none => rw [hz] at q2; exact q2.elim
  | some z =>
    rw [hz] at q2
    exact hf W ω μ2 S2 H2 x y z v u Q s2 (RepL.mono s1 e2 rv) ru hz fun H' v' s' e' r' => q2 μ2 H' s' e' v' r'
theorem de_bin_n {ma mb : EM} {r : R2} {f : F2} (hf : Op2N X cl r f) {σ : St} {H : Hp} {Q : VK} (h : tN X.K cl E (bin2 f ma mb) σ H Q) : tOp r (tL X.K cl E ma) (tL X.K cl E mb) σ H Q := by
  obtain ⟨W, ω, μ, S, env, rl, q⟩ := h
  refine ⟨W, ω, μ, S, env, rl, q.bind.mono fun x S1 μ1 H1 _ s1 e1 q1 v rv => ?_⟩
  refine ⟨W, ω, μ1, S1, env, rl.ext e1 s1, q1.bind.mono fun y S2 μ2 H2 _ s2 e2 q2 u ru => ?_⟩
  cases hz : f S2 x y with
  | none => rw [hz] at q2; exact q2.elim
  | some z =>
    rw [hz] at q2
    exact hf W ω μ2 S2 H2 x y z v u Q s2 (RepL.mono s1 e2 rv) ru hz fun a o ha r' => q2 μ2 _ (s2.fresh ha) (Ext.fresh ha) a (fresh_back e1 (fresh_back e2 ha)) (s2.freshBan ha fun z => s2.tracked (.inl z) ha) ((r'.mono (Ext.kpBan ha)).at upd_same)
variable {a b : Expr} {ma mb : EM} {pos : Pos}
theorem de_op {op : Operator} {r : R2} {f : F2} (ho : OpR X (binaryOp op) r) (hf : Op2 X cl r f) (ha : PE X a (tL X.K cl E ma)) (hb : PE X b (tL X.K cl E mb)) : PE X (.BinOp a op b pos) (tD X.K cl E (bin2 f ma mb)) :=
  (pe_op ho ha hb).imp fun _ _ _ h => de_bin_t hf h
theorem de_opN {op : Operator} {r : R2} {f : F2} (ho : OpR X (binaryOp op) r) (hf : Op2N X cl r f) (ha : PE X a (tL X.K cl E ma)) (hb : PE X b (tL X.K cl E mb)) : PE X (.BinOp a op b pos) (tN X.K cl E (bin2 f ma mb)) :=
  (pe_op ho ha hb).imp fun _ _ _ h => de_bin_n hf h
theorem de_ix {r : R2} {f : F2} (ho : IxR X r) (hf : Op2 X cl r f) (ha : PE X a (tL X.K cl E ma)) (hb : PE X b (tL X.K cl E mb)) (hs : PlainIx b) : PE X (.Subscript a b pos) (tD X.K cl E (bin2 f ma mb)) :=
  (pe_ix ho ha hb hs).imp fun _ _ _ h => de_bin_t hf h
theorem de_cmp {op : CmpOp} {r : R2} {f : F2} (ho : OpR X (compareOp op) r) (hf : Op2 X cl r f) (ha : PE X a (tL X.K cl E ma)) (hb : PE X b (tL X.K cl E mb)) (hm : behindInMarks op b = false) : PE X (.Compare a [op] [b] pos) (tD X.K cl E (bin2 f ma mb)) :=
  (pe_cmpR ho ha hb hm).imp fun _ _ _ h => de_bin_t hf h
end
end Dm

set_option Elab.async false
set_option linter.all false
set_option maxRecDepth 100000
set_option autoImplicit false
set_option maxHeartbeats 1000000
/-! Dm3: unary operators, tests, and, or, not, conditional expressions, chains, argument lists, displays, statements, defs and their calls. -/
namespace Dm
open PySem PySem.Spec L2
section
variable {X : Cx} {cl : Cl} {E : XK} {e a b c : Expr} {m ma mb mc : EM} {pos : Pos}

/-! ### one value -/
abbrev F1 := Sto → Vl → Option Vl
def un1 (f : F1) (a : EM) : EM := fun env S => (a env S).bind fun x S1 => match f S1 x with
  | some v => .ok v S1
  | none => .bad
def Op1 (X : Cx) (cl : Cl) (r : V → Hp → VK → Prop) (f : F1) : Prop := ∀ (W : Addr → Prop) (ω : List (Option Addr)) (μ : List Addr) (S : Sto) (H : Hp) (x z : Vl) (v : V) (Q : VK), Sim X.K cl (Wo W ω) μ S H → RepL X.K cl W ω μ H x v →
  f S x = some z → (∀ H' v', Sim X.K cl (Wo W ω) μ S H' → Ext μ H μ H' → Rep X.K cl (Bn (Wo W ω) μ) μ H' z v' → Q v' H') → r v H Q
theorem de_un_t {r : V → Hp → VK → Prop} {f : F1} (hf : Op1 X cl r f) {σ : St} {H : Hp} {Q : VK} (h : tD X.K cl E (un1 f ma) σ H Q) : tUn r (tL X.K cl E ma) σ H Q := by
  obtain ⟨W, ω, μ, S, env, rl, q⟩ := h
  refine ⟨W, ω, μ, S, env, rl, q.bind.mono fun x S1 μ1 H1 _ s1 e1 q1 v rv => ?_⟩
  cases hz : f S1 x with
  | none => rw [hz] at q1; exact q1.elim
  | some z =>
    rw [hz] at q1
    exact hf W ω μ1 S1 H1 x z v Q s1 rv hz fun H' v' s' e' r' => q1 μ1 H' s' e' v' r'
theorem de_un {op : UnaryOp} {r : V → Hp → VK → Prop} {f : F1} (ho : UnR X (unaryOp op) r) (hf : Op1 X cl r f) (ha : PE X a (tL X.K cl E ma)) : PE X (.UnaryOp op a pos) (tD X.K cl E (un1 f ma)) :=
  (pe_un ho ha).imp fun _ _ _ h => de_un_t hf h

/-! ### tests -/
def tv (m : EM) : TM := fun env S => (m env S).bind fun x S1 => match x with
  | .bl b => .ok b S1
  | _ => .bad
theorem tv_t {σ : St} {H : Hp} {Q : Bool → Hp → Prop} (h : tDT X.K cl E (tv m) σ H Q) : tD X.K cl E m σ H fun x H1 => ∃ k, x = .bl k ∧ Q k H1 := by
  obtain ⟨W, ω, μ, S, env, rl, q⟩ := h
  refine ⟨W, ω, μ, S, env, rl, q.bind.mono fun x S1 μ1 H1 _ s1 e1 q1 v rv => ?_⟩
  cases x with
  | bl b =>
    cases rv
    exact ⟨b, rfl, q1 μ1 H1 s1 Ext.refl⟩
  | _ => exact q1.elim
theorem dt_val (h : PE X e (tD X.K cl E m)) (he : ∀ whole, isTrue e X.env whole = (do let v ← whole; standAt e.pos; holding [v] (truthy v)) := by intro _; rfl) : PT X e (tDT X.K cl E (tv m)) :=
  (pt_val h he).imp fun _ _ _ h => tv_t h
theorem dt_cmp {op : CmpOp} {r : R2} {f : F2} (ho : OpR X (compareOp op) r) (hf : Op2 X cl r f) (ha : PE X a (tL X.K cl E ma)) (hb : PE X b (tL X.K cl E mb)) (hm : behindInMarks op b = false) : PT X (.Compare a [op] [b] pos) (tDT X.K cl E (tv (bin2 f ma mb))) :=
  (pt_cmpR ho ha hb hm).imp fun _ _ _ h => de_bin_t hf (by
    obtain ⟨W, ω, μ, S, env, rl, q⟩ := tv_t h
    exact ⟨W, ω, μ, S, env, rl, q⟩)
/-- truth of anything -/
abbrev FT := Sto → Vl → Option Bool
def tru (f : FT) (m : EM) : TM := fun env S => (m env S).bind fun x S1 => match f S1 x with
  | some b => .ok b S1
  | none => .bad
def TruOk (X : Cx) (cl : Cl) (f : FT) : Prop := ∀ (W : Addr → Prop) (ω : List (Option Addr)) (μ : List Addr) (S : Sto) (H : Hp) (x : Vl) (v : V) (k : Bool), Sim X.K cl (Wo W ω) μ S H → RepL X.K cl W ω μ H x v → f S x = some k → TruV X.K v H k
theorem dt_truth {f : FT} (hf : TruOk X cl f) (h : PE X e (tL X.K cl E m)) (he : ∀ whole, isTrue e X.env whole = (do let v ← whole; standAt e.pos; holding [v] (truthy v)) := by intro _; rfl) : PT X e (tDT X.K cl E (tru f m)) :=
  (pt_truth h he).imp fun σ H Q h => by
    obtain ⟨W, ω, μ, S, env, rl, q⟩ := h
    refine ⟨W, ω, μ, S, env, rl, q.bind.mono fun x S1 μ1 H1 _ s1 e1 q1 v rv => ?_⟩
    cases hz : f S1 x with
    | none => rw [hz] at q1; exact q1.elim
    | some k =>
      rw [hz] at q1
      exact ⟨k, hf W ω μ1 S1 H1 x v k s1 rv hz, q1 μ1 H1 s1 Ext.refl⟩
variable {tA tB : TM} {rest : List Expr}
def andT (a b : TM) : TM := fun env S => (a env S).bind fun c S1 => if c then b env S1 else .ok false S1
def orT (a b : TM) : TM := fun env S => (a env S).bind fun c S1 => if c then .ok true S1 else b env S1
def notT (a : TM) : TM := fun env S => (a env S).bind fun c S1 => .ok (!c) S1
theorem dw_and1 (ha : PT X a (tDT X.K cl E tA)) : PW X (.BoolOp .And [a] pos) (tDT X.K cl E tA) := pw_and1 ha
theorem dw_or1 (ha : PT X a (tDT X.K cl E tA)) : PW X (.BoolOp .Or [a] pos) (tDT X.K cl E tA) := pw_or1 ha
theorem dw_and (ha : PT X a (tDT X.K cl E tA)) (hb : PW X (.BoolOp .And (b :: rest) pos) (tDT X.K cl E tB)) : PW X (.BoolOp .And (a :: b :: rest) pos) (tDT X.K cl E (andT tA tB)) :=
  (pw_and ha hb).imp fun σ H Q h => by
    obtain ⟨W, ω, μ, S, env, rl, q⟩ := h
    refine ⟨W, ω, μ, S, env, rl, q.bind.mono fun k S1 μ1 H1 _ s1 e1 q1 => ?_⟩
    cases k with
    | true => exact ⟨W, ω, μ1, S1, env, rl.ext e1 s1, q1⟩
    | false => exact q1 μ1 H1 s1 Ext.refl
theorem dw_or (ha : PT X a (tDT X.K cl E tA)) (hb : PW X (.BoolOp .Or (b :: rest) pos) (tDT X.K cl E tB)) : PW X (.BoolOp .Or (a :: b :: rest) pos) (tDT X.K cl E (orT tA tB)) :=
  (pw_or ha hb).imp fun σ H Q h => by
    obtain ⟨W, ω, μ, S, env, rl, q⟩ := h
    refine ⟨W, ω, μ, S, env, rl, q.bind.mono fun k S1 μ1 H1 _ s1 e1 q1 => ?_⟩
    cases k with
    | false => exact ⟨W, ω, μ1, S1, env, rl.ext e1 s1, q1⟩
    | true => exact q1 μ1 H1 s1 Ext.refl
theorem dt_not (ha : PT X a (tDT X.K cl E tA)) : PT X (.UnaryOp .Not a pos) (tDT X.K cl E (notT tA)) :=
  (pt_not ha).imp fun σ H Q h => by
    obtain ⟨W, ω, μ, S, env, rl, q⟩ := h
    exact ⟨W, ω, μ, S, env, rl, q.bind.mono fun k S1 μ1 H1 _ s1 e1 q1 => q1 μ1 H1 s1 Ext.refl⟩
/-- and, or, not as values: bools -/
def andV (a b : EM) : EM := fun env S => (a env S).bind fun x S1 => match x with
  | .bl c => if c then b env S1 else .ok (.bl false) S1
  | _ => .bad
def orV (a b : EM) : EM := fun env S => (a env S).bind fun x S1 => match x with
  | .bl c => if c then .ok (.bl true) S1 else b env S1
  | _ => .bad
def notV (a : EM) : EM := fun env S => (a env S).bind fun x S1 => match x with
  | .bl c => .ok (.bl (!c)) S1
  | _ => .bad
theorem de_one {op : BoolOp} (h : PE X a (tD X.K cl E m)) : PE X (.BoolOp op [a] pos) (tD X.K cl E m) := pe_one h
theorem de_and (ha : PE X a (tD X.K cl E ma)) (hb : PE X (.BoolOp .And (b :: rest) pos) (tD X.K cl E mb)) : PE X (.BoolOp .And (a :: b :: rest) pos) (tD X.K cl E (andV ma mb)) :=
  (pe_and ha hb).imp fun σ H Q h => by
    obtain ⟨W, ω, μ, S, env, rl, q⟩ := h
    refine ⟨W, ω, μ, S, env, rl, q.bind.mono fun x S1 μ1 H1 _ s1 e1 q1 v rv => ?_⟩
    cases x with
    | bl k =>
      cases rv
      refine ⟨k, rfl, ?_⟩
      cases k with
      | true => exact ⟨W, ω, μ1, S1, env, rl.ext e1 s1, q1⟩
      | false => exact q1 μ1 H1 s1 Ext.refl _ (.bl false)
    | _ => exact q1.elim
theorem de_or (ha : PE X a (tD X.K cl E ma)) (hb : PE X (.BoolOp .Or (b :: rest) pos) (tD X.K cl E mb)) : PE X (.BoolOp .Or (a :: b :: rest) pos) (tD X.K cl E (orV ma mb)) :=
  (pe_or ha hb).imp fun σ H Q h => by
    obtain ⟨W, ω, μ, S, env, rl, q⟩ := h
    refine ⟨W, ω, μ, S, env, rl, q.bind.mono fun x S1 μ1 H1 _ s1 e1 q1 v rv => ?_⟩
    cases x with
    | bl k =>
      cases rv
      refine ⟨k, rfl, ?_⟩
      cases k with
      | false => exact ⟨W, ω, μ1, S1, env, rl.ext e1 s1, q1⟩
      | true => exact q1 μ1 H1 s1 Ext.refl _ (.bl true)
    | _ => exact q1.elim
theorem de_not (ha : PE X a (tD X.K cl E ma)) : PE X (.UnaryOp .Not a pos) (tD X.K cl E (notV ma)) :=
  (pe_not ha).imp fun σ H Q h => by
    obtain ⟨W, ω, μ, S, env, rl, q⟩ := h
    refine ⟨W, ω, μ, S, env, rl, q.bind.mono fun x S1 μ1 H1 _ s1 e1 q1 v rv => ?_⟩
    cases x with
    | bl k =>
      cases rv
      exact ⟨k, rfl, q1 μ1 H1 s1 Ext.refl _ (.bl _)⟩
    | _ => exact q1.elim
/-- a if c else b -/
def ifM (c : TM) (a b : EM) : EM := fun env S => (c env S).bind fun k S1 => if k then a env S1 else b env S1
theorem de_if (hc : PT X c (tDT X.K cl E tA)) (ha : PE X a (tD X.K cl E ma)) (hb : PE X b (tD X.K cl E mb)) : PE X (.IfExp c a b pos) (tD X.K cl E (ifM tA ma mb)) :=
  (pe_ifExp hc ha hb).imp fun σ H Q h => by
    obtain ⟨W, ω, μ, S, env, rl, q⟩ := h
    refine ⟨W, ω, μ, S, env, rl, q.bind.mono fun k S1 μ1 H1 _ s1 e1 q1 => ?_⟩
    cases k with
    | true => exact ⟨W, ω, μ1, S1, env, rl.ext e1 s1, q1⟩
    | false => exact ⟨W, ω, μ1, S1, env, rl.ext e1 s1, q1⟩
/-- a op b op' c -/
def ch3 (f g : F2) (a b c : EM) : EM := fun env S => (a env S).bind fun x S1 => (b env S1).bind fun y S2 => match f S2 x y with
  | some (.bl k) => if k then (c env S2).bind fun z S3 => (match g S3 y z with | some v => .ok v S3 | none => .bad) else .ok (.bl false) S2
  | _ => .bad
theorem ch3_t {r r' : R2} {f g : F2} (hf : Op2 X cl r f) (hg : Op2 X cl r' g) {σ : St} {H : Hp} {Q : VK} (h : tD X.K cl E (ch3 f g ma mb mc) σ H Q) : tChain r r' (tL X.K cl E ma) (tL X.K cl E mb) (tL X.K cl E mc) σ H Q := by
  obtain ⟨W, ω, μ, S, env, rl, q⟩ := h
  refine ⟨W, ω, μ, S, env, rl, q.bind.mono fun x S1 μ1 H1 _ s1 e1 q1 v rv => ?_⟩
  refine ⟨W, ω, μ1, S1, env, rl.ext e1 s1, q1.bind.mono fun y S2 μ2 H2 _ s2 e2 q2 u ru => ?_⟩
  cases hz : f S2 x y with
  | none => rw [hz] at q2; exact q2.elim
  | some z =>
    rw [hz] at q2
    refine hf W ω μ2 S2 H2 x y z v u _ s2 (RepL.mono s1 e2 rv) ru hz fun H3 v3 s3 e3 r3 => ?_
    cases z with
    | bl k =>
      cases r3
      refine ⟨k, rfl, ?_⟩
      cases k with
      | false => exact q2 μ2 H3 s3 e3 _ (.bl false)
      | true =>
        have q3 : SatG X.K cl (Wo W ω) μ2 H2 ((mc env S2).bind fun z S3 => (match g S3 y z with | some v => .ok v S3 | none => .bad)) _ E := q2
        refine ⟨W, ω, μ2, S2, env, ((rl.ext e1 s1).ext e2 s2).ext e3 s3, ?_⟩
        have q4 := q3.bind
        revert q4
        generalize mc env S2 = t
        intro q4
        cases t with
        | bad => exact q4
        | exc c ns xs S3 => exact fun μ' H' d s' e' xf => q4 μ' H' d s' (e3.trans e') xf
        | ok z S3 =>
          intro μ4 H4 s4 e4 v4 r4
          have q5 := q4 μ4 H4 s4 (e3.trans e4)
          dsimp only at q5
          cases hw : g S3 y z with
          | none => rw [hw] at q5; exact q5.elim
          | some w =>
            rw [hw] at q5
            exact hg W ω μ4 S3 H4 y z w u v4 Q s4 (RepL.mono s3 e4 (RepL.mono s2 e3 ru)) r4 hw fun H' v' s' e' r' => q5 μ4 H' s' e' v' r'
    | _ => exact q2.elim
theorem de_ch {op op' : CmpOp} {r r' : R2} {f g : F2} (ho : OpR X (compareOp op) r) (ho' : OpR X (compareOp op') r') (hf : Op2 X cl r f) (hg : Op2 X cl r' g) (ha : PE X a (tL X.K cl E ma)) (hb : PE X b (tL X.K cl E mb)) (hc : PE X c (tL X.K cl E mc))
    (hm : lastMarks [op, op'] [b, c] = false := by with_unfolding_all rfl) : PE X (.Compare a [op, op'] [b, c] pos) (tD X.K cl E (ch3 f g ma mb mc)) := (pe_chain ho ho' ha hb hc hm).imp fun _ _ _ h => ch3_t hf hg h
theorem dt_ch {op op' : CmpOp} {r r' : R2} {f g : F2} (ho : OpR X (compareOp op) r) (ho' : OpR X (compareOp op') r') (hf : Op2 X cl r f) (hg : Op2 X cl r' g) (ha : PE X a (tL X.K cl E ma)) (hb : PE X b (tL X.K cl E mb)) (hc : PE X c (tL X.K cl E mc))
    (hm : lastMarks [op, op'] [b, c] = false := by with_unfolding_all rfl) : PT X (.Compare a [op, op'] [b, c] pos) (tDT X.K cl E (tv (ch3 f g ma mb mc))) := (pt_chain ho ho' ha hb hc hm).imp fun _ _ _ h => ch3_t hf hg (tv_t h)

/-! ### argument lists -/
variable {es : List Expr} {mA : AM}
def nilA : AM := fun _ S => .ok [] S
def consA (m : EM) (r : AM) : AM := fun env S => (m env S).bind fun x S1 => (r env S1).bind fun xs S2 => .ok (x :: xs) S2
theorem da_nil : PA X [] (tDA X.K cl E nilA) := pa_nil.imp fun σ H Q ⟨W, ω, μ, S, env, rl, q⟩ => q μ H rl.sim Ext.refl [] .nil
theorem da_cons (ha : PE X e (tD X.K cl E m)) (hr : PA X es (tDA X.K cl E mA)) (hs : starEach (e :: es) X.env = (false, eval e X.env) :: starEach es X.env := by rfl) : PA X (e :: es) (tDA X.K cl E (consA m mA)) :=
  (pa_cons ha hr hs).imp fun σ H Q h => by
    obtain ⟨W, ω, μ, S, env, rl, q⟩ := h
    refine ⟨W, ω, μ, S, env, rl, q.bind.mono fun x S1 μ1 H1 _ s1 e1 q1 v rv => ?_⟩
    refine ⟨W, ω, μ1, S1, env, rl.ext e1 s1, q1.bind.mono fun xs S2 μ2 H2 _ s2 e2 q2 vs rs => ?_⟩
    exact q2 μ2 H2 s2 Ext.refl (v :: vs) (.cons (rv.mono e2.kp) rs)
/-- loose ones -/
def RepsL (K : PySem.W.Frag) (cl : Cl) (W : Addr → Prop) (ω : List (Option Addr)) (μ : List Addr) (H : Hp) : List Vl → List V → Prop := Paired (RepL K cl W ω μ H)
def tLA (K : PySem.W.Frag) (cl : Cl) (E : XK) (m : AM) : TA := fun σ H Q => ∃ W ω μ S env, Rl K cl W ω μ S env σ H ∧
  SatG K cl (Wo W ω) μ H (m env S) (fun xs _ μ' H' => ∀ vs, RepsL K cl W ω μ' H' xs vs → Q vs H') E
theorem la_nil : PA X [] (tLA X.K cl E nilA) := pa_nil.imp fun σ H Q ⟨W, ω, μ, S, env, rl, q⟩ => q μ H rl.sim Ext.refl [] .nil
theorem la_cons (ha : PE X e (tL X.K cl E m)) (hr : PA X es (tLA X.K cl E mA)) (hs : starEach (e :: es) X.env = (false, eval e X.env) :: starEach es X.env := by rfl) : PA X (e :: es) (tLA X.K cl E (consA m mA)) :=
  (pa_cons ha hr hs).imp fun σ H Q h => by
    obtain ⟨W, ω, μ, S, env, rl, q⟩ := h
    refine ⟨W, ω, μ, S, env, rl, q.bind.mono fun x S1 μ1 H1 _ s1 e1 q1 v rv => ?_⟩
    refine ⟨W, ω, μ1, S1, env, rl.ext e1 s1, q1.bind.mono fun xs S2 μ2 H2 _ s2 e2 q2 vs rs => ?_⟩
    exact q2 μ2 H2 s2 Ext.refl (v :: vs) (.cons (RepL.mono s1 e2 rv) rs)
/-- how many -/
def LenA (m : AM) (n : Nat) : Prop := ∀ env S xs S', m env S = .ok xs S' → xs.length = n
theorem lenA_nil : LenA nilA 0 := fun env S xs S' h => by cases h; rfl
theorem lenA_cons {n : Nat} (h : LenA mA n) : LenA (consA m mA) (n + 1) := fun env S xs S' q => by
  unfold consA at q
  cases e1 : m env S with
  | bad => rw [e1] at q; cases q
  | exc c ns ys S1 => rw [e1] at q; cases q
  | ok x S1 =>
    rw [e1] at q
    dsimp only [Res.bind] at q
    cases e2 : mA env S1 with
    | bad => rw [e2] at q; cases q
    | exc c ns ys S2 => rw [e2] at q; cases q
    | ok ys S2 =>
      rw [e2] at q
      cases q
      exact congrArg (· + 1) (h _ _ _ _ e2)

/-! ### displays -/
def tupM (a : AM) : EM := fun env S => (a env S).bind fun xs S1 => .ok (.tup xs) S1
def lstM (a : AM) : EM := fun env S => (a env S).bind fun xs S1 => .ok (.lst xs) S1
theorem de_tup {n j : Nat} (h : PA X es (tDA X.K cl E mA)) (hn : LenA mA n) (hl : n ≤ 1000 := by decide) : PE X (.Tuple es j pos) (tD X.K cl E (tupM mA)) :=
  (pe_tup h).imp fun σ H Q h => by
    obtain ⟨W, ω, μ, S, env, rl, q⟩ := h
    refine ⟨W, ω, μ, S, env, rl, q.bind.mono fun xs S1 μ1 H1 ee s1 e1 q1 vs rs => ⟨?_, fun p hp => ?_⟩⟩
    · rw [← rs.length, hn _ _ _ _ ee, sizeLine_eq]; omega
    · exact q1 μ1 _ (s1.fresh hp) (Ext.fresh hp) _ (.tup upd_same (fun z => s1.free hp z) (rs.mono (Ext.fresh hp).kp))
theorem dn_lst {n : Nat} (h : PA X es (tDA X.K cl E mA)) (hn : LenA mA n) (hl : n ≤ 1000 := by decide) : PE X (.List es pos) (tN X.K cl E (lstM mA)) :=
  (pe_lst h).imp fun σ H Q h => by
    obtain ⟨W, ω, μ, S, env, rl, q⟩ := h
    refine ⟨W, ω, μ, S, env, rl, q.bind.mono fun xs S1 μ1 H1 ee s1 e1 q1 vs rs => ⟨?_, fun p hp => ?_⟩⟩
    · rw [← rs.length, hn _ _ _ _ ee, sizeLine_eq]; omega
    · exact q1 μ1 _ (s1.fresh hp) (Ext.fresh hp) p (fresh_back e1 hp) (s1.freshBan hp fun z => s1.tracked (.inl z) hp) (.lst upd_same (rs.mono (Ext.kpBan hp)))

/-! ### calls of built-ins -/
abbrev FA := Sto → List Vl → Option Vl
def cB (f : FA) (a : AM) : EM := fun env S => (a env S).bind fun xs S1 => match f S1 xs with
  | some v => .ok v S1
  | none => .bad
def OpA (X : Cx) (cl : Cl) (r : List V → Hp → VK → Prop) (f : FA) : Prop := ∀ (W : Addr → Prop) (ω : List (Option Addr)) (μ : List Addr) (S : Sto) (H : Hp) (xs : List Vl) (z : Vl) (vs : List V) (Q : VK), Sim X.K cl (Wo W ω) μ S H → RepsL X.K cl W ω μ H xs vs →
  f S xs = some z → (∀ H' v', Sim X.K cl (Wo W ω) μ S H' → Ext μ H μ H' → Rep X.K cl (Bn (Wo W ω) μ) μ H' z v' → Q v' H') → r vs H Q
def OpAN (X : Cx) (cl : Cl) (r : List V → Hp → VK → Prop) (f : FA) : Prop := ∀ (W : Addr → Prop) (ω : List (Option Addr)) (μ : List Addr) (S : Sto) (H : Hp) (xs : List Vl) (z : Vl) (vs : List V) (Q : VK), Sim X.K cl (Wo W ω) μ S H → RepsL X.K cl W ω μ H xs vs →
  f S xs = some z → (∀ a o, H a = none → Ho X.K cl (Bn (Wo W ω) μ) μ H z o → Q (.ref a) (upd H a o)) → r vs H Q
theorem cB_t {r : List V → Hp → VK → Prop} {f : FA} (hf : OpA X cl r f) {σ : St} {H : Hp} {Q : VK} (h : tD X.K cl E (cB f mA) σ H Q) : tCB r (tLA X.K cl E mA) σ H Q := by
  obtain ⟨W, ω, μ, S, env, rl, q⟩ := h
  refine ⟨W, ω, μ, S, env, rl, q.bind.mono fun x S1 μ1 H1 _ s1 e1 q1 v rv => ?_⟩
  cases hz : f S1 x with
  | none => rw [hz] at q1; exact q1.elim
  | some z =>
    rw [hz] at q1
    exact hf W ω μ1 S1 H1 x z v Q s1 rv hz fun H' v' s' e' r' => q1 μ1 H' s' e' v' r'
theorem cB_n {r : List V → Hp → VK → Prop} {f : FA} (hf : OpAN X cl r f) {σ : St} {H : Hp} {Q : VK} (h : tN X.K cl E (cB f mA) σ H Q) : tCB r (tLA X.K cl E mA) σ H Q := by
  obtain ⟨W, ω, μ, S, env, rl, q⟩ := h
  refine ⟨W, ω, μ, S, env, rl, q.bind.mono fun x S1 μ1 H1 _ s1 e1 q1 v rv => ?_⟩
  cases hz : f S1 x with
  | none => rw [hz] at q1; exact q1.elim
  | some z =>
    rw [hz] at q1
    exact hf W ω μ1 S1 H1 x z v Q s1 rv hz fun a o ha r' => q1 μ1 _ (s1.fresh ha) (Ext.fresh ha) a (fresh_back e1 ha) (s1.freshBan ha fun z => s1.tracked (.inl z) ha) ((r'.mono (Ext.kpBan ha)).at upd_same)
variable {x : Str} {p : Pos} {id T : String} {r : List V → Hp → VK → Prop} {f : FA}
theorem de_callB (hc : CallR X (.builtin id) r) (hf : OpA X cl r f) (hg : Gl X x) (hm : X.mg x = none) (hv : bootBuiltins x = some (.builtin id)) (ha : PA X (e :: es) (tLA X.K cl E mA)) (hn : x ≠ "__name__" := by decide) (hdb : (x == ("__debug__" : Str)) = false := by decide)
    (he : starEach (e :: es) X.env = (false, eval e X.env) :: starEach es X.env := by rfl) (hpl : (backTo pos (starEach es X.env)).any (·.1) = false := by rfl) : PE X (.Call (.Name x p) (e :: es) [] pos) (tD X.K cl E (cB f mA)) :=
  (pe_callB hc hg hm hv ha hn hdb he hpl).imp fun _ _ _ h => cB_t hf h
theorem de_callTy (hc : CallR X (.type T) r) (hf : OpA X cl r f) (hg : Gl X x) (hm : X.mg x = none) (hv : bootBuiltins x = some (.type T)) (ha : PA X (e :: es) (tLA X.K cl E mA)) (hn : x ≠ "__name__" := by decide) (hdb : (x == ("__debug__" : Str)) = false := by decide)
    (he : starEach (e :: es) X.env = (false, eval e X.env) :: starEach es X.env := by rfl) (hpl : (backTo pos (starEach es X.env)).any (·.1) = false := by rfl) : PE X (.Call (.Name x p) (e :: es) [] pos) (tD X.K cl E (cB f mA)) :=
  (pe_callTy hc hg hm hv ha hn hdb he hpl).imp fun _ _ _ h => cB_t hf h
theorem dn_callB (hc : CallR X (.builtin id) r) (hf : OpAN X cl r f) (hg : Gl X x) (hm : X.mg x = none) (hv : bootBuiltins x = some (.builtin id)) (ha : PA X (e :: es) (tLA X.K cl E mA)) (hn : x ≠ "__name__" := by decide) (hdb : (x == ("__debug__" : Str)) = false := by decide)
    (he : starEach (e :: es) X.env = (false, eval e X.env) :: starEach es X.env := by rfl) (hpl : (backTo pos (starEach es X.env)).any (·.1) = false := by rfl) : PE X (.Call (.Name x p) (e :: es) [] pos) (tN X.K cl E (cB f mA)) :=
  (pe_callB hc hg hm hv ha hn hdb he hpl).imp fun _ _ _ h => cB_n hf h
theorem dn_callTy (hc : CallR X (.type T) r) (hf : OpAN X cl r f) (hg : Gl X x) (hm : X.mg x = none) (hv : bootBuiltins x = some (.type T)) (ha : PA X (e :: es) (tLA X.K cl E mA)) (hn : x ≠ "__name__" := by decide) (hdb : (x == ("__debug__" : Str)) = false := by decide)
    (he : starEach (e :: es) X.env = (false, eval e X.env) :: starEach es X.env := by rfl) (hpl : (backTo pos (starEach es X.env)).any (·.1) = false := by rfl) : PE X (.Call (.Name x p) (e :: es) [] pos) (tN X.K cl E (cB f mA)) :=
  (pe_callTy hc hg hm hv ha hn hdb he hpl).imp fun _ _ _ h => cB_n hf h
end
end Dm

set_option Elab.async false
set_option linter.all false
set_option maxRecDepth 100000
set_option autoImplicit false
set_option maxHeartbeats 1000000
/-! Dm4: statements, bodies, defs. -/
namespace Dm
open PySem PySem.Spec L2
inductive Fl where
  | nx (env : List Sv) | rt (x : Vl) | bk (env : List Sv) | ct (env : List Sv)
abbrev SM := List Sv → Sto → Res Fl
structure ExtS (ω : List (Option Addr)) (μ : List Addr) (H : Hp) (ω' : List (Option Addr)) (μ' : List Addr) (H' : Hp) : Prop where
  keep : ∀ b o, H b = some o → b ∉ μ → some b ∉ ω → H' b = some o
  dom : ∀ b, H b ≠ none → H' b ≠ none
  pre : ∀ (n : Nat) (a : Addr), μ[n]? = some a → μ'[n]? = some a
  new : ∀ a, a ∈ μ' ∨ some a ∈ ω' → a ∈ μ ∨ some a ∈ ω ∨ H a = none
theorem ExtS.refl {ω : List (Option Addr)} {μ : List Addr} {H : Hp} : ExtS ω μ H ω μ H := ⟨fun _ _ e _ _ => e, fun _ e => e, fun _ _ e => e, fun _ e => e.elim .inl fun e => .inr (.inl e)⟩
theorem ExtS.trans {ω ω1 ω2 : List (Option Addr)} {μ μ1 μ2 : List Addr} {H H1 H2 : Hp} (p : ExtS ω μ H ω1 μ1 H1) (q : ExtS ω1 μ1 H1 ω2 μ2 H2) : ExtS ω μ H ω2 μ2 H2 where
  keep := fun b o e n n' => q.keep b o (p.keep b o e n n') (fun z => by
    rcases p.new b (.inl z) with z | z | z
    · exact n z
    · exact n' z
    · rw [e] at z; cases z) fun z => by
    rcases p.new b (.inr z) with z | z | z
    · exact n z
    · exact n' z
    · rw [e] at z; cases z
  dom := fun b e => q.dom b (p.dom b e)
  pre := fun n a e => q.pre n a (p.pre n a e)
  new := fun a z => by
    rcases q.new a z with z | z | z
    · exact p.new a (.inl z)
    · exact p.new a (.inr z)
    · refine .inr (.inr ?_)
      cases e : H a with
      | none => rfl
      | some o => exact absurd z (p.dom a (by rw [e]; simp))
theorem Ext.s {ω : List (Option Addr)} {μ μ' : List Addr} {H H' : Hp} (e : Ext μ H μ' H') : ExtS ω μ H ω μ' H' :=
  ⟨fun b o q n _ => e.keep b o q n, e.dom, e.pre, fun a z => z.elim (fun z => (e.new a z).elim .inl fun z => .inr (.inr z)) fun z => .inr (.inl z)⟩
/-- own names let go -/
theorem ExtS.drop {ω ω' ω'' : List (Option Addr)} {μ μ' : List Addr} {H H' : Hp} (e : ExtS ω μ H ω' μ' H') (h : ∀ a, some a ∈ ω'' → some a ∈ ω') : ExtS ω μ H ω'' μ' H' :=
  ⟨e.keep, e.dom, e.pre, fun a z => e.new a (z.elim .inl fun z => .inr (h a z))⟩

def SatF (K : PySem.W.Frag) (cl : Cl) (W : Addr → Prop) (ω : List (Option Addr)) (μ : List Addr) (H : Hp) (r : Res Fl) (D : Ends) (E : XK) : Prop := match r with
  | .ok (.nx env) S' => ∀ ω' μ' σ' H', Rl K cl W ω' μ' S' env σ' H' → ExtS ω μ H ω' μ' H' → D.nx σ' H'
  | .ok (.bk env) S' => ∀ ω' μ' σ' H', Rl K cl W ω' μ' S' env σ' H' → ExtS ω μ H ω' μ' H' → D.bk σ' H'
  | .ok (.ct env) S' => ∀ ω' μ' σ' H', Rl K cl W ω' μ' S' env σ' H' → ExtS ω μ H ω' μ' H' → D.ct σ' H'
  | .ok (.rt x) S' => ∀ μ' H' v, Sim K cl W μ' S' H' → ExtS ω μ H [] μ' H' → Rep K cl (Bn W μ') μ' H' x v → D.rt v H'
  | .exc c ns xs S' => ∀ μ' H' d, Sim K cl W μ' S' H' → ExtS ω μ H [] μ' H' → XFs K cl (Bn W μ') μ' H' d ns xs → E (.ref (cl c)) (some d) H'
  | .bad => False
def tS (K : PySem.W.Frag) (cl : Cl) (E : XK) (b : SM) : TS := fun D σ H => ∃ W ω μ S env, Rl K cl W ω μ S env σ H ∧ SatF K cl W ω μ H (b env S) D E
section
variable {K : PySem.W.Frag} {cl : Cl} {W : Addr → Prop} {ω ω' : List (Option Addr)} {μ μ' : List Addr} {H H' : Hp} {D : Ends} {E : XK} {S S' : Sto} {env : List Sv} {σ : St}
theorem SatF.step {r : Res Fl} (h : SatF K cl W ω μ H r D E) (e : ExtS ω μ H ω' μ' H') : SatF K cl W ω' μ' H' r D E := by
  cases r with
  | bad => exact h
  | exc c ns xs S' => exact fun μ' H' d s e' x => h μ' H' d s (e.trans e') x
  | ok f S' =>
    cases f with
    | nx env => exact fun ω2 μ2 σ2 H2 r e' => h ω2 μ2 σ2 H2 r (e.trans e')
    | bk env => exact fun ω2 μ2 σ2 H2 r e' => h ω2 μ2 σ2 H2 r (e.trans e')
    | ct env => exact fun ω2 μ2 σ2 H2 r e' => h ω2 μ2 σ2 H2 r (e.trans e')
    | rt x => exact fun μ2 H2 v s e' r => h μ2 H2 v s (e.trans e') r
theorem wo_left {W : Addr → Prop} {ω : List (Option Addr)} (a : Addr) (h : W a) : Wo W ω a := .inl h
/-- an exception out of an expression leaves the statement -/
theorem SatF.ofG {α : Type} {r : Res α} {k : α → Sto → Res Fl} (h : SatF K cl W ω μ H (r.bind k) D E) : SatG K cl (Wo W ω) μ H r (fun a S1 μ1 H1 => SatF K cl W ω μ1 H1 (k a S1) D E) E := by
  cases r with
  | bad => exact h
  | exc c ns xs S1 =>
    intro μ' H' d s e x
    obtain ⟨fs, e1, e2, e3⟩ := x
    exact h μ' H' d (s.weak wo_left) (e.s.drop fun _ z => nomatch z) ⟨fs, e1, e2, e3.mono (Kp.weak wo_left)⟩
  | ok a S1 => exact fun μ' H' s e => SatF.step (r := k a S1) h e.s
theorem Rl.len (r : Rl K cl W ω μ S env σ H) : σ.length = env.length := r.l1.symm
/-- a name gets a value -/
theorem Rl.set (r : Rl K cl W ω μ S env σ H) {x : Vl} {v : V} (h : Rep K cl (Bn (Wo W ω) μ) μ H x v) (i : Nat) : Rl K cl W (ω.set i none) μ S (env.set i (.v x)) (σ.set i (some v)) H := by
  have sub : ∀ a, Wo W (ω.set i none) a → Wo W ω a := fun a z => z.elim .inl fun z => .inr ((List.mem_or_eq_of_mem_set z).elim id fun z => nomatch z)
  refine ⟨r.sim.weak sub, by simp [r.l1], by simp [r.l2], fun j e o s h1 h2 h3 => ?_, fun j k a h1 h2 => ?_, fun a z => r.ow a ((List.mem_or_eq_of_mem_set z).elim id fun z => nomatch z)⟩
  · by_cases hj : j = i
    · subst hj
      rw [List.getElem?_set_self (by have := (List.getElem?_eq_some_iff.mp h1).1; simpa using this)] at h1
      rw [List.getElem?_set_self (by have := (List.getElem?_eq_some_iff.mp h2).1; simpa using this)] at h2
      rw [List.getElem?_set_self (by have := (List.getElem?_eq_some_iff.mp h3).1; simpa using this)] at h3
      cases h1; cases h2; cases h3
      exact ⟨rfl, v, rfl, h.mono (Kp.weak sub)⟩
    · rw [List.getElem?_set_ne (Ne.symm hj)] at h1 h2 h3
      exact (r.at_ j e o s h1 h2 h3).mono (Kp.weak sub) fun _ _ _ q => q
  · have f : ∀ l : Nat, (ω.set i none)[l]? = some (some a) → ω[l]? = some (some a) := fun l q => by
      by_cases hl : l = i
      · subst hl
        rw [List.getElem?_set_self (by have := (List.getElem?_eq_some_iff.mp q).1; simpa using this)] at q
        cases q
      · rw [List.getElem?_set_ne (Ne.symm hl)] at q; exact q
    exact r.od j k a (f j h1) (f k h2)
theorem mem_set_none {ω : List (Option Addr)} {i : Nat} {a : Addr} (z : some a ∈ ω.set i none) : some a ∈ ω := (List.mem_or_eq_of_mem_set z).elim id fun z => nomatch z
/-- a name gets a new object of its own: made since H -/
theorem Rl.setOwn (r : Rl K cl W ω μ S env σ H) (e : Ext μ H μ' H') {a : Addr} {x : Vl} (ha : H a = none) (s : Sim K cl (Wa (Wo W ω) a) μ' S' H') (h : At K cl (Bn (Wa (Wo W ω) a) μ') μ' H' a x) (i : Nat) (hi : i < ω.length) :
    Rl K cl W (ω.set i (some a)) μ' S' (env.set i (.ow x)) (σ.set i (some (.ref a))) H' := by
  have sub : ∀ b, Wo W (ω.set i (some a)) b → Wa (Wo W ω) a b := fun b z => z.elim (fun z => .inl (.inl z)) fun z => (List.mem_or_eq_of_mem_set z).elim (fun z => .inl (.inr z)) fun z => .inr (Option.some.inj z)
  have na : ∀ j : Nat, ω[j]? ≠ some (some a) := fun j q => r.sim.trk a (.inr (List.mem_of_getElem? q)) ha
  have kp : Kp (Bn (Wo W ω) μ) (Bn (Wo W (ω.set i (some a))) μ') μ μ' H H' := ⟨fun b o q n => ⟨e.keep b o q fun z => n (.inl z), fun z => by
      rcases z with z | z
      · rcases e.new b z with z | z
        · exact n (.inl z)
        · rw [q] at z; cases z
      · rcases sub b z with z | z
        · exact n (.inr z)
        · rw [z, ha] at q; cases q⟩, e.pre⟩
  refine ⟨s.weak sub, by simp [r.l1], by simp [r.l2], fun j ee o s' h1 h2 h3 => ?_, fun j k b h1 h2 => ?_, fun b z => ?_⟩
  · by_cases hj : j = i
    · subst hj
      rw [List.getElem?_set_self (by have := (List.getElem?_eq_some_iff.mp h1).1; simpa using this)] at h1
      rw [List.getElem?_set_self (by have := (List.getElem?_eq_some_iff.mp h2).1; simpa using this)] at h2
      rw [List.getElem?_set_self (by have := (List.getElem?_eq_some_iff.mp h3).1; simpa using this)] at h3
      cases h1; cases h2; cases h3
      exact ⟨a, rfl, rfl, h.mono (Kp.weak sub) fun _ q => q⟩
    · rw [List.getElem?_set_ne (Ne.symm hj)] at h1 h2 h3
      exact (r.at_ j ee o s' h1 h2 h3).mono kp fun b u z q => e.keep b u q fun hm => r.sim.dis b hm (.inr (by rw [← z]; exact List.mem_of_getElem? h2))
  · by_cases hj : j = i
    · by_cases hk : k = i
      · rw [hj, hk]
      · rw [List.getElem?_set_ne (Ne.symm hk)] at h2
        subst hj
        rw [List.getElem?_set_self hi] at h1
        cases h1
        exact absurd h2 (na k)
    · rw [List.getElem?_set_ne (Ne.symm hj)] at h1
      by_cases hk : k = i
      · subst hk
        rw [List.getElem?_set_self hi] at h2
        cases h2
        exact absurd h1 (na j)
      · rw [List.getElem?_set_ne (Ne.symm hk)] at h2
        exact r.od j k b h1 h2
  · rcases List.mem_or_eq_of_mem_set z with z | z
    · exact r.ow b z
    · cases z
      exact fun w => r.sim.trk _ (.inl w) ha
/-- a name gets a new shared object -/
theorem Rl.setNew (r : Rl K cl W ω μ S env σ H) (e : Ext μ H μ' H') {a : Addr} {x : Vl} (ha : H a = none) (s : Sim K cl (Wa (Wo W ω) a) μ' S' H') (h : At K cl (Bn (Wa (Wo W ω) a) μ') μ' H' a x) (i : Nat) :
    Rl K cl W (ω.set i none) (μ' ++ [a]) (S' ++ [x]) (env.set i (.v (.ref S'.length))) (σ.set i (some (.ref a))) H' := by
  have na : a ∉ μ' := fun z => s.dis a z (.inr rfl)
  have kp : Kp (Bn (Wa (Wo W ω) a) μ') (Bn (Wo W ω) (μ' ++ [a])) μ' (μ' ++ [a]) H' H' := ⟨fun b o q n => ⟨q, fun z => by
      rcases z with z | z
      · rcases List.mem_append.mp z with z | z
        · exact n (.inl z)
        · exact n (.inr (.inr (by simpa using z)))
      · exact n (.inr (.inl z))⟩, fun n b q => by rw [List.getElem?_append_left (List.getElem?_eq_some_iff.mp q).1]; exact q⟩
  have e2 : Ext μ H (μ' ++ [a]) H' := ⟨e.keep, e.dom, fun n b q => kp.num n b (e.pre n b q), fun b z => (List.mem_append.mp z).elim (e.new b) fun z => .inr (by
    have : b = a := by simpa using z
    rw [this]; exact ha)⟩
  have s2 : Sim K cl (Wo W ω) (μ' ++ [a]) (S' ++ [x]) H' := by
    refine ⟨by simp [s.len], ?_, fun b z w => ?_, fun b w => s.trn b (.inl w), fun n y q => ?_⟩
    · rw [List.nodup_append]
      exact ⟨s.nd, by simp, fun b hb c hc => by
        have : c = a := by simpa using hc
        subst this
        exact fun z => na (z ▸ hb)⟩
    · rcases List.mem_append.mp z with z | z
      · exact s.dis b z (.inl w)
      · have : b = a := by simpa using z
        subst this
        exact r.sim.trk b w ha
    · by_cases hn : n < S'.length
      · rw [List.getElem?_append_left hn] at q
        obtain ⟨b, e1, e2⟩ := s.obs n y q
        exact ⟨b, kp.num n b e1, e2.mono kp fun _ q => q⟩
      · have hn2 : n = S'.length := by
          have := (List.getElem?_eq_some_iff.mp q).1
          rw [List.length_append, List.length_singleton] at this
          omega
        subst hn2
        rw [List.getElem?_append_right (Nat.le_refl _), Nat.sub_self] at q
        cases q
        refine ⟨a, ?_, h.mono kp fun _ q => q⟩
        rw [← s.len, List.getElem?_append_right (Nat.le_refl _), Nat.sub_self] <;> rfl
  refine (r.ext e2 s2).set (x := .ref S'.length) (v := .ref a) (.ref ?_) i
  rw [← s.len, List.getElem?_append_right (Nat.le_refl _), Nat.sub_self] <;> rfl
/-- an own object changed -/
theorem Rl.updG (r : Rl K cl W ω μ S env σ H) {i : Nat} {a : Addr} {y : Vl} {o : HO} {e' : Sv} (hs : σ[i]? = some (some (.ref a))) (ha : ω[i]? = some (some a)) (he' : e' = .ow y ∨ e' = .sf a y) (ho : Ho K cl (Bn (Wo W ω) μ) μ H y o) :
    Rl K cl W ω μ S (env.set i e') σ (upd H a o) ∧ ExtS ω μ H ω μ (upd H a o) := by
  have ham : some a ∈ ω := List.mem_of_getElem? ha
  have kp : Kp (Bn (Wo W ω) μ) (Bn (Wo W ω) μ) μ μ H (L2.upd H a o) := ⟨fun b u q n => ⟨by rw [upd_ne (show b ≠ a from fun z => n (.inr (.inr (by rw [z]; exact ham))))]; exact q, n⟩, fun _ _ q => q⟩
  refine ⟨⟨⟨r.sim.len, r.sim.nd, r.sim.dis, fun b w => ?_, fun n z q => ?_⟩, by simp [r.l1], r.l2, fun j e u s h1 h2 h3 => ?_, r.od, r.ow⟩, ⟨fun b u q _ n => by rw [upd_ne (show b ≠ a from fun z => n (by rw [z]; exact ham))]; exact q, fun b q => ?_, fun _ _ q => q, fun b z => z.elim .inl fun z => .inr (.inl z)⟩⟩
  · exact (r.sim.trn b w).upd ho.nt
  · obtain ⟨b, e1, e2⟩ := r.sim.obs n z q
    exact ⟨b, e1, e2.mono kp fun u q => by rw [upd_ne (show b ≠ a from fun z => r.sim.dis b (List.mem_of_getElem? e1) (.inr (by rw [z]; exact ham)))]; exact q⟩
  · by_cases hj : j = i
    · subst hj
      rw [List.getElem?_set_self (by have := (List.getElem?_eq_some_iff.mp h1).1; simpa using this)] at h1
      rw [ha] at h2
      cases h1; cases h2
      rw [hs] at h3; cases h3
      rcases he' with z | z
      · rw [z]; exact ⟨a, rfl, rfl, (ho.mono kp).at upd_same⟩
      · rw [z]; exact ⟨rfl, rfl, (ho.mono kp).at upd_same⟩
    · rw [List.getElem?_set_ne (Ne.symm hj)] at h1
      refine (r.at_ j e u s h1 h2 h3).mono kp fun b w z q => ?_
      rw [upd_ne]
      · exact q
      · intro zz
        subst zz
        rw [z] at h2
        exact hj (r.od j i b h2 ha)
  · unfold L2.upd
    split
    · simp
    · exact q
theorem Rl.upd (r : Rl K cl W ω μ S env σ H) {i : Nat} {a : Addr} {x y : Vl} {o : HO} (hi : env[i]? = some (.ow x)) (ha : ω[i]? = some (some a)) (ho : Ho K cl (Bn (Wo W ω) μ) μ H y o) :
    Rl K cl W ω μ S (env.set i (.ow y)) σ (L2.upd H a o) ∧ ExtS ω μ H ω μ (L2.upd H a o) := by
  obtain ⟨o', s', q1, q2, b, q3, q4, q5⟩ := r.slot hi
  rw [ha] at q1; cases q1
  cases q3
  exact r.updG (by rw [q2, q4]) ha (.inl rfl) ho
theorem Rl.updS (r : Rl K cl W ω μ S env σ H) {i : Nat} {a : Addr} {x y : Vl} {o : HO} (hi : env[i]? = some (.sf a x)) (ho : Ho K cl (Bn (Wo W ω) μ) μ H y o) :
    Rl K cl W ω μ S (env.set i (.sf a y)) σ (L2.upd H a o) ∧ ExtS ω μ H ω μ (L2.upd H a o) := by
  obtain ⟨o', s', q1, q2, q3, q4, q5⟩ := r.slot hi
  subst q3
  exact r.updG (by rw [q2, q4]) q1 (.inr rfl) ho
theorem nd_ix : ∀ {l : List Addr} {i j : Nat} {x : Addr}, l.Nodup → l[i]? = some x → l[j]? = some x → i = j
  | [], _, _, _, _, h, _ => by simp at h
  | y :: l, 0, 0, _, _, _, _ => rfl
  | y :: l, 0, j + 1, x, n, h, h' => by
    simp at h h'
    subst h
    exact absurd (List.mem_of_getElem? h') (List.nodup_cons.mp n).1
  | y :: l, i + 1, 0, x, n, h, h' => by
    simp at h h'
    subst h'
    exact absurd (List.mem_of_getElem? h) (List.nodup_cons.mp n).1
  | y :: l, i + 1, j + 1, x, n, h, h' => congrArg (· + 1) (nd_ix (List.nodup_cons.mp n).2 (by simpa using h) (by simpa using h'))
/-- a shared object changed -/
theorem Sim.upd {W' : Addr → Prop} (s : Sim K cl W' μ S H) {n : Nat} {a : Addr} {y : Vl} {o : HO} (hn : μ[n]? = some a) (ho : Ho K cl (Bn W' μ) μ H y o) : Sim K cl W' μ (S.set n y) (upd H a o) ∧ Ext μ H μ (upd H a o) := by
  have ham : a ∈ μ := List.mem_of_getElem? hn
  have kp : Kp (Bn W' μ) (Bn W' μ) μ μ H (L2.upd H a o) := ⟨fun b u q n => ⟨by rw [upd_ne (show b ≠ a from fun z => n (.inl (by rw [z]; exact ham)))]; exact q, n⟩, fun _ _ q => q⟩
  refine ⟨⟨by simp [s.len], s.nd, s.dis, fun b w => ?_, fun j z q => ?_⟩, ⟨fun b u q n => by rw [upd_ne (show b ≠ a from fun z => n (by rw [z]; exact ham))]; exact q, fun b q => ?_, fun _ _ q => q, fun _ q => .inl q⟩⟩
  · exact (s.trn b w).upd ho.nt
  · by_cases hj : j = n
    · subst hj
      rw [List.getElem?_set_self (by have := (List.getElem?_eq_some_iff.mp q).1; simpa using this)] at q
      cases q
      exact ⟨a, hn, (ho.mono kp).at upd_same⟩
    · rw [List.getElem?_set_ne (Ne.symm hj)] at q
      obtain ⟨b, e1, e2⟩ := s.obs j z q
      refine ⟨b, e1, e2.mono kp fun u q => ?_⟩
      rw [upd_ne]
      · exact q
      · intro zz
        subst zz
        exact hj (nd_ix s.nd e1 hn)
  · unfold L2.upd
    split
    · simp
    · exact q
end
end Dm

set_option Elab.async false
set_option linter.all false
set_option maxRecDepth 100000
set_option autoImplicit false
set_option maxHeartbeats 1000000
/-! Dm5: the statements' rules, a def's promise by its mirror, its calls. -/
namespace Dm
open PySem PySem.Spec L2
section
variable {X : Cx} {cl : Cl} {E : XK} {st : Stmt} {sts : List Stmt} {b b1 b2 : SM} {m m1 m2 : EM} {i j : Nat} {e : Expr} {pos : Pos}
def nilS : SM := fun env S => .ok (.nx env) S
def seqS (b1 b2 : SM) : SM := fun env S => (b1 env S).bind fun f S1 => match f with
  | .nx env1 => b2 env1 S1
  | f => .ok f S1
theorem ds_nil : PSs X [] (tS X.K cl E nilS) := pss_nil.imp fun D σ H ⟨W, ω, μ, S, env, rl, q⟩ => q ω μ σ H rl ExtS.refl
theorem ds_cons (h1 : PS X st (tS X.K cl E b1)) (h2 : PSs X sts (tS X.K cl E b2)) : PSs X (st :: sts) (tS X.K cl E (seqS b1 b2)) := (pss_cons h1 h2).imp fun D σ H ⟨W, ω, μ, S, env, rl, q⟩ => by
  refine ⟨W, ω, μ, S, env, rl, ?_⟩
  unfold seqS at q
  revert q
  generalize b1 env S = r
  intro q
  cases r with
  | bad => exact q
  | exc c ns xs S' => exact q
  | ok f S' =>
    cases f with
    | nx env1 => exact fun ω' μ' σ' H' r' e' => ⟨W, ω', μ', S', env1, r', SatF.step (r := b2 env1 S') q e'⟩
    | bk env1 => exact q
    | ct env1 => exact q
    | rt x => exact q
theorem ds_one (h : PS X st (tS X.K cl E b)) : PSs X [st] (tS X.K cl E b) := pss_one h
def ifS (c : TM) (a b : SM) : SM := fun env S => (c env S).bind fun k S1 => if k then a env S1 else b env S1
theorem ds_if {c : Expr} {p q : List Stmt} {tc : TM} (hc : PT X c (tDT X.K cl E tc)) (ha : PSs X p (tS X.K cl E b1)) (hb : PSs X q (tS X.K cl E b2)) : PS X (.If c p q pos) (tS X.K cl E (ifS tc b1 b2)) :=
  (ps_if hc ha hb).imp fun D σ H ⟨W, ω, μ, S, env, rl, q⟩ => by
    refine ⟨W, ω, μ, S, env, rl, q.ofG.mono fun k S1 μ1 H1 _ s1 e1 q1 => ?_⟩
    cases k with
    | true => exact ⟨W, ω, μ1, S1, env, rl.ext e1 s1, q1⟩
    | false => exact ⟨W, ω, μ1, S1, env, rl.ext e1 s1, q1⟩
theorem ds_never : PS X st (tS X.K cl E fun _ _ => .bad) := ps_never.imp fun D σ H ⟨W, ω, μ, S, env, rl, q⟩ => q
theorem dss_never : PSs X sts (tS X.K cl E fun _ _ => .bad) := pss_never.imp fun D σ H ⟨W, ω, μ, S, env, rl, q⟩ => q
theorem ds_pass : PS X (.Pass pos) (tS X.K cl E nilS) := ps_pass.imp fun D σ H ⟨W, ω, μ, S, env, rl, q⟩ => q ω μ σ H rl ExtS.refl
def brkS : SM := fun env S => .ok (.bk env) S
def ctS : SM := fun env S => .ok (.ct env) S
theorem ds_break : PS X (.Break pos) (tS X.K cl E brkS) := ps_break.imp fun D σ H ⟨W, ω, μ, S, env, rl, q⟩ => q ω μ σ H rl ExtS.refl
theorem ds_continue : PS X (.Continue pos) (tS X.K cl E ctS) := ps_continue.imp fun D σ H ⟨W, ω, μ, S, env, rl, q⟩ => q ω μ σ H rl ExtS.refl
/-- return -/
def retS (m : EM) : SM := fun env S => (m env S).bind fun x S1 => .ok (.rt x) S1
def retV (i : Nat) : SM := fun env S => match env[i]? with
  | some (.v x) => .ok (.rt x) S
  | some (.ow x) => .ok (.rt x) S
  | _ => .bad
def retN : SM := fun _ S => .ok (.rt .non) S
theorem ds_ret (h : PE X e (tD X.K cl E m)) : PS X (.Return (some e) pos) (tS X.K cl E (retS m)) := (ps_ret h).imp fun D σ H ⟨W, ω, μ, S, env, rl, q⟩ =>
  ⟨W, ω, μ, S, env, rl, q.ofG.mono fun x S1 μ1 H1 _ s1 e1 q1 v rv => q1 μ1 H1 v (s1.weak wo_left) (ExtS.refl.drop fun _ z => nomatch z) (rv.mono (Kp.weak wo_left))⟩
theorem ds_retV (h : PE X e (tVar i)) : PS X (.Return (some e) pos) (tS X.K cl E (retV i)) := (ps_ret h).imp fun D σ H ⟨W, ω, μ, S, env, rl, q⟩ => by
  unfold retV at q
  cases he : env[i]? with
  | none => rw [he] at q; exact q.elim
  | some z =>
    rw [he] at q
    cases z with
    | un => exact q.elim
    | sf a x => exact q.elim
    | ow x =>
      obtain ⟨o, s, h1, h2, a, h3, h4, h5⟩ := rl.slot he
      subst h4
      subst h3
      refine ⟨.ref a, h2, q μ H _ (rl.sim.weak wo_left) (ExtS.refl.drop fun _ z => nomatch z) ((h5.mono (Kp.weak wo_left) fun _ q => q).rep fun z => ?_)⟩
      rcases z with z | z
      · exact rl.sim.dis a z (.inr (List.mem_of_getElem? h1))
      · exact rl.ow a (List.mem_of_getElem? h1) z
    | v x =>
      obtain ⟨o, s, h1, h2, _, v, h4, h5⟩ := rl.slot he
      subst h4
      exact ⟨v, h2, q μ H v (rl.sim.weak wo_left) (ExtS.refl.drop fun _ z => nomatch z) (h5.mono (Kp.weak wo_left))⟩
theorem ds_retN : PS X (.Return none pos) (tS X.K cl E retN) := ps_retN.imp fun D σ H ⟨W, ω, μ, S, env, rl, q⟩ =>
  q μ H _ (rl.sim.weak wo_left) (ExtS.refl.drop fun _ z => nomatch z) .non
/-- an expression, its value dropped -/
def exprS (m : EM) : SM := fun env S => (m env S).bind fun _ S1 => .ok (.nx env) S1
theorem ds_expr {te : TE} (h : PS X st (tDrop te)) (hi : ∀ σ H Q, tD X.K cl E m σ H Q → te σ H Q) : PS X st (tS X.K cl E (exprS m)) := h.imp fun D σ H ⟨W, ω, μ, S, env, rl, q⟩ =>
  hi _ _ _ ⟨W, ω, μ, S, env, rl, q.ofG.mono fun x S1 μ1 H1 _ s1 e1 q1 v rv => q1 ω μ1 σ H1 (rl.ext e1 s1) ExtS.refl⟩
/-! ### names -/
def setS (i : Nat) (m : EM) : SM := fun env S => (m env S).bind fun x S1 => .ok (.nx (env.set i (.v x))) S1
def ownS (i : Nat) (m : EM) : SM := fun env S => (m env S).bind fun x S1 => .ok (.nx (env.set i (.ow x))) S1
def newS (i : Nat) (m : EM) : SM := fun env S => (m env S).bind fun x S1 => .ok (.nx (env.set i (.v (.ref S1.length)))) (S1 ++ [x])
theorem ds_set {te : TE} (h : PS X st (tAsg te (gName i))) (hi : ∀ σ H Q, tD X.K cl E m σ H Q → te σ H Q) : PS X st (tS X.K cl E (setS i m)) := h.imp fun D σ H ⟨W, ω, μ, S, env, rl, q⟩ =>
  hi _ _ _ ⟨W, ω, μ, S, env, rl, q.ofG.mono fun x S1 μ1 H1 _ s1 e1 q1 v rv => q1 _ μ1 _ H1 ((rl.ext e1 s1).set rv i) (ExtS.refl.drop fun _ z => mem_set_none z)⟩
theorem ExtS.ownNew {ω : List (Option Addr)} {μ μ' : List Addr} {H H' : Hp} {a : Addr} (e : Ext μ H μ' H') (ha : H a = none) : ExtS ω μ H (ω.set i (some a)) μ' H' :=
  ⟨fun b o q n _ => e.keep b o q n, e.dom, e.pre, fun b z => z.elim (fun z => (e.new b z).elim .inl fun z => .inr (.inr z)) fun z => (List.mem_or_eq_of_mem_set z).elim (fun z => .inr (.inl z)) fun z => by cases z; exact .inr (.inr ha)⟩
theorem SatF.back {K : PySem.W.Frag} {W : Addr → Prop} {ω : List (Option Addr)} {μ : List Addr} {H : Hp} {α : Type} {r : Res α} {k : α → Sto → Res Fl} {D : Ends} (h : SatF K cl W ω μ H (r.bind k) D E) : SatG K cl (Wo W ω) μ H r (fun a S1 μ1 H1 => SatF K cl W ω μ H (k a S1) D E) E := by
  cases r with
  | bad => exact h
  | exc c ns xs S1 =>
    intro μ' H' d s e x
    obtain ⟨fs, e1, e2, e3⟩ := x
    exact h μ' H' d (s.weak wo_left) (e.s.drop fun _ z => nomatch z) ⟨fs, e1, e2, e3.mono (Kp.weak wo_left)⟩
  | ok a S1 => exact fun μ' H' s e => h
theorem ds_own {te : TE} (h : PS X st (tAsg te (gName i))) (hi : ∀ σ H Q, tN X.K cl E m σ H Q → te σ H Q) : PS X st (tS X.K cl E (ownS i m)) := h.imp fun D σ H ⟨W, ω, μ, S, env, rl, q⟩ => by
  refine hi _ _ _ ⟨W, ω, μ, S, env, rl, q.back.mono fun x S1 μ1 H1 _ s1 e1 q1 a ha sb at_ => ?_⟩
  by_cases hl : i < ω.length
  · exact q1 _ μ1 _ H1 (rl.setOwn e1 ha sb at_ i hl) (ExtS.ownNew e1 ha)
  · have z1 : env.set i (.ow x) = env := List.set_eq_of_length_le (by rw [rl.l1, ← rl.l2]; omega)
    have z2 : σ.set i (some (.ref a)) = σ := List.set_eq_of_length_le (by rw [← rl.l2]; omega)
    show D.nx (σ.set i (some (.ref a))) H1
    rw [z2]
    have q2 : SatF X.K cl W ω μ H (.ok (.nx (env.set i (.ow x))) S1) D E := q1
    rw [z1] at q2
    exact q2 ω μ1 σ H1 (rl.ext e1 s1) e1.s
theorem ds_new {te : TE} (h : PS X st (tAsg te (gName i))) (hi : ∀ σ H Q, tN X.K cl E m σ H Q → te σ H Q) : PS X st (tS X.K cl E (newS i m)) := h.imp fun D σ H ⟨W, ω, μ, S, env, rl, q⟩ => by
  refine hi _ _ _ ⟨W, ω, μ, S, env, rl, q.back.mono fun x S1 μ1 H1 _ s1 e1 q1 a ha sb at_ => ?_⟩
  refine q1 _ _ _ H1 (rl.setNew e1 ha sb at_ i) ⟨fun b o q n _ => e1.keep b o q n, e1.dom, fun n b z => ?_, fun b z => ?_⟩
  · rw [List.getElem?_append_left (List.getElem?_eq_some_iff.mp (e1.pre n b z)).1]; exact e1.pre n b z
  · rcases z with z | z
    · rcases List.mem_append.mp z with z | z
      · exact (e1.new b z).elim .inl fun z => .inr (.inr z)
      · have : b = a := by simpa using z
        subst this
        exact .inr (.inr ha)
    · exact .inr (.inl (mem_set_none z))
/-- an own object is done with: from here on a plain value (no statement) -/
def frzS (i : Nat) : SM := fun env S => match env[i]? with
  | some (.ow x) => .ok (.nx (env.set i (.v x))) S
  | _ => .bad
theorem Rl.freeze {K : PySem.W.Frag} {W : Addr → Prop} {ω : List (Option Addr)} {μ : List Addr} {S : Sto} {env : List Sv} {σ : St} {H : Hp} {x : Vl} (rl : Rl K cl W ω μ S env σ H) (he : env[i]? = some (.ow x)) : Rl K cl W (ω.set i none) μ S (env.set i (.v x)) σ H := by
  obtain ⟨o, s, h1, h2, a, h3, h4, h5⟩ := rl.slot he
  subst h4
  subst h3
  have sub : ∀ b, Wo W (ω.set i none) b → Wo W ω b := fun b z => z.elim .inl fun z => .inr (mem_set_none z)
  have na : ¬ Bn (Wo W (ω.set i none)) μ a := fun z => by
    rcases z with z | z | z
    · exact rl.sim.dis a z (.inr (List.mem_of_getElem? h1))
    · exact rl.ow a (List.mem_of_getElem? h1) z
    · obtain ⟨j, hj⟩ := List.getElem?_of_mem z
      by_cases hji : j = i
      · subst hji
        rw [List.getElem?_set_self (by have := (List.getElem?_eq_some_iff.mp hj).1; simpa using this)] at hj
        cases hj
      · rw [List.getElem?_set_ne (Ne.symm hji)] at hj
        exact hji (rl.od j i a hj h1)
  refine ⟨rl.sim.weak sub, by simp [rl.l1], by simp [rl.l2], fun j e o s g1 g2 g3 => ?_, fun j k b g1 g2 => ?_, fun b z => rl.ow b (mem_set_none z)⟩
  · by_cases hj : j = i
    · subst hj
      rw [List.getElem?_set_self (by have := (List.getElem?_eq_some_iff.mp g1).1; simpa using this)] at g1
      rw [List.getElem?_set_self (by have := (List.getElem?_eq_some_iff.mp g2).1; simpa using this)] at g2
      cases g1; cases g2
      rw [h2] at g3; cases g3
      exact ⟨rfl, _, rfl, (h5.mono (Kp.weak sub) fun _ q => q).rep na⟩
    · rw [List.getElem?_set_ne (Ne.symm hj)] at g1 g2
      exact (rl.at_ j e o s g1 g2 g3).mono (Kp.weak sub) fun _ _ _ q => q
  · have f : ∀ l : Nat, (ω.set i none)[l]? = some (some b) → ω[l]? = some (some b) := fun l q => by
      by_cases hl : l = i
      · subst hl
        rw [List.getElem?_set_self (by have := (List.getElem?_eq_some_iff.mp q).1; simpa using this)] at q
        cases q
      · rw [List.getElem?_set_ne (Ne.symm hl)] at q; exact q
    exact rl.od j k b (f j g1) (f k g2)
theorem ds_frz (h : PSs X sts (tS X.K cl E b)) : PSs X sts (tS X.K cl E (seqS (frzS i) b)) := h.imp fun D σ H ⟨W, ω, μ, S, env, rl, q⟩ => by
  unfold seqS frzS at q
  cases he : env[i]? with
  | none => rw [he] at q; exact q.elim
  | some z =>
    rw [he] at q
    cases z with
    | un => exact q.elim
    | v x => exact q.elim
    | sf a x => exact q.elim
    | ow x => exact ⟨W, _, μ, S, _, rl.freeze he, SatF.step (r := b _ S) q (ExtS.refl.drop fun _ z => mem_set_none z)⟩
/-! ### a, b = x, y -/
def par2 (i j : Nat) (m1 m2 : EM) : SM := fun env S => (m1 env S).bind fun x S1 => (m2 env S1).bind fun y S2 => .ok (.nx ((env.set i (.v x)).set j (.v y))) S2
def parVO (i j : Nat) (m1 m2 : EM) : SM := fun env S => (m1 env S).bind fun x S1 => (m2 env S1).bind fun y S2 => .ok (.nx ((env.set i (.v x)).set j (.ow y))) S2
def parOV (i j : Nat) (m1 m2 : EM) : SM := fun env S => (m1 env S).bind fun x S1 => (m2 env S1).bind fun y S2 => .ok (.nx ((env.set i (.ow x)).set j (.v y))) S2
theorem ds_par {t1 t2 : TE} (h : PS X st (tPar i j (tCons t1 (tCons t2 tNil)))) (h1 : ∀ σ H Q, tD X.K cl E m1 σ H Q → t1 σ H Q) (h2 : ∀ σ H Q, tD X.K cl E m2 σ H Q → t2 σ H Q) : PS X st (tS X.K cl E (par2 i j m1 m2)) := h.imp fun D σ H ⟨W, ω, μ, S, env, rl, q⟩ =>
  h1 _ _ _ ⟨W, ω, μ, S, env, rl, q.ofG.mono fun x S1 μ1 H1 _ s1 e1 q1 v rv => h2 _ _ _ ⟨W, ω, μ1, S1, env, rl.ext e1 s1, q1.ofG.mono fun y S2 μ2 H2 _ s2 e2 q2 u ru =>
    ⟨v, u, rfl, q2 _ μ2 _ H2 ((((rl.ext e1 s1).ext e2 s2).set (rv.mono e2.kp) i).set (ru.mono (Kp.weak fun a z => z.elim .inl fun z => .inr (mem_set_none z))) j) (ExtS.refl.drop fun _ z => mem_set_none (mem_set_none z))⟩⟩⟩
theorem ds_parVO {t1 t2 : TE} (h : PS X st (tPar i j (tCons t1 (tCons t2 tNil)))) (h1 : ∀ σ H Q, tD X.K cl E m1 σ H Q → t1 σ H Q) (h2 : ∀ σ H Q, tN X.K cl E m2 σ H Q → t2 σ H Q) : PS X st (tS X.K cl E (parVO i j m1 m2)) := h.imp fun D σ H ⟨W, ω, μ, S, env, rl, q⟩ => by
  refine h1 _ _ _ ⟨W, ω, μ, S, env, rl, q.ofG.mono fun x S1 μ1 H1 _ s1 e1 q1 v rv => h2 _ _ _ ⟨W, ω, μ1, S1, env, rl.ext e1 s1, q1.back.mono fun y S2 μ2 H2 _ s2 e2 q2 a ha sb at_ => ?_⟩⟩
  have r1 := (rl.ext e1 s1).set rv i
  have hw : ∀ b, Wa (Wo W (ω.set i none)) a b → Wa (Wo W ω) a b := fun b z => z.elim (fun z => .inl (z.elim .inl fun z => .inr (mem_set_none z))) .inr
  have d0 : ExtS ω μ1 H1 (ω.set i none) μ1 H1 := ExtS.refl.drop fun _ z => mem_set_none z
  by_cases hl : j < env.length
  · have r2 := r1.setOwn e2 ha (sb.weak hw) (at_.mono (Kp.weak hw) fun _ q => q) j (by rw [List.length_set, rl.l2, ← rl.l1]; exact hl)
    exact ⟨v, .ref a, rfl, q2 _ μ2 _ H2 r2 (d0.trans (ExtS.ownNew e2 ha))⟩
  · have z1 : (env.set i (.v x)).set j (.ow y) = env.set i (.v x) := List.set_eq_of_length_le (by rw [List.length_set]; omega)
    have z2 : (σ.set i (some v)).set j (some (.ref a)) = σ.set i (some v) := List.set_eq_of_length_le (by rw [List.length_set, ← rl.l1]; omega)
    refine ⟨v, .ref a, rfl, ?_⟩
    rw [z2]
    have q3 : SatF X.K cl W ω μ1 H1 (.ok (.nx ((env.set i (.v x)).set j (.ow y))) S2) D E := q2
    rw [z1] at q3
    have s2' : Sim X.K cl (Wo W (ω.set i none)) μ2 S2 H2 := s2.weak fun b z => z.elim .inl fun z => .inr (mem_set_none z)
    exact q3 _ μ2 _ H2 (r1.ext e2 s2') (d0.trans e2.s)
/-! ### a, b, .. = a tuple -/
def setAll : List Nat → List Vl → List Sv → List Sv
  | i :: is, x :: xs, env => setAll is xs (env.set i (.v x))
  | _, _, env => env
def unpS (is : List Nat) (m : EM) : SM := fun env S => (m env S).bind fun x S1 => match x with
  | .tup xs => if xs.length = is.length then .ok (.nx (setAll is xs env)) S1 else .bad
  | _ => .bad
/-- targets that are names -/
def gNames : List Nat → TGs
  | [] => gNil
  | i :: is => gCons (gName i) (gNames is)
theorem gNames_ok {K : PySem.W.Frag} {W : Addr → Prop} {μ : List Addr} {S : Sto} {H : Hp} {Q : St → Hp → Prop} : ∀ {is : List Nat} {xs : List Vl} {vs : List V} {ω : List (Option Addr)} {env : List Sv} {σ : St}, Rl K cl W ω μ S env σ H → Reps K cl (Bn (Wo W ω) μ) μ H xs vs → xs.length = is.length →
    (∀ ω' σ', Rl K cl W ω' μ S (setAll is xs env) σ' H → (∀ a, some a ∈ ω' → some a ∈ ω) → Q σ' H) → gNames is vs σ H Q
  | [], _, _, ω, _, σ, rl, .nil, _, k => ⟨rfl, k ω σ rl fun _ z => z⟩
  | [], _, _, _, _, _, _, .cons _ _, hl, _ => by cases hl
  | i :: is, _, _, ω, env, σ, rl, .cons r rs, hl, k => ⟨_, _, rfl, gNames_ok (rl.set r i) (rs.mono (Kp.weak fun a z => z.elim .inl fun z => .inr (mem_set_none z))) (Nat.succ.inj hl) fun ω' σ' r' h' => k ω' σ' r' fun a z => mem_set_none (h' a z)⟩
  | _ :: _, _, _, _, _, _, _, .nil, hl, _ => by cases hl
theorem ds_unp {te : TE} {is : List Nat} {n : Nat} (h : PS X st (tAsg te (gTup X.K n (gNames is)))) (hn : n = is.length) (hi : ∀ σ H Q, tD X.K cl E m σ H Q → te σ H Q) : PS X st (tS X.K cl E (unpS is m)) := h.imp fun D σ H ⟨W, ω, μ, S, env, rl, q⟩ =>
  hi _ _ _ ⟨W, ω, μ, S, env, rl, q.ofG.mono fun x S1 μ1 H1 _ s1 e1 q1 v rv => by
    cases rv with
    | @tup xs a vs h1 h2 rs =>
      by_cases hl : xs.length = is.length
      · dsimp only at q1
        rw [if_pos hl] at q1
        exact ⟨_, _, rfl, .of h1, by rw [hn, ← hl, rs.length], gNames_ok (rl.ext e1 s1) rs hl fun ω' σ' r' h' => q1 ω' μ1 σ' H1 r' (ExtS.refl.drop h')⟩
      · dsimp only at q1
        rw [if_neg hl] at q1
        exact q1.elim
    | _ => exact q1.elim⟩
end
/-! ### a def -/
def startE (N : Nat) (args : List Vl) : List Sv := args.map .v ++ List.replicate (N - args.length) .un
def runM (N : Nat) (b : SM) (args : List Vl) (S : Sto) : Res Vl := (b (startE N args) S).bind fun f S' => match f with
  | .rt x => .ok x S'
  | .nx _ => .ok .non S'
  | _ => .bad
/-- a def's promise: as its mirror f says, of n arguments -/
def spM (K : PySem.W.Frag) (cl : Cl) (n : Nat) (f : List Vl → Sto → Res Vl) : Sp := fun vs H Q E => ∃ W μ S args, Sim K cl W μ S H ∧ Reps K cl (Bn W μ) μ H args vs ∧ args.length = n ∧
  SatG K cl W μ H (f args S) (fun x _ μ' H' => ∀ v, Rep K cl (Bn W μ') μ' H' x v → Q v H') E
theorem spM_len {K : PySem.W.Frag} {cl : Cl} {n : Nat} {f : List Vl → Sto → Res Vl} {vs : List V} {H : Hp} {Q : VK} {E : XK} (h : spM K cl n f vs H Q E) : vs.length = n := by
  obtain ⟨W, μ, S, args, _, r, l, _⟩ := h
  rw [← r.length]; exact l
theorem start_get {N : List Str} {vs : List V} {args : List Vl} (hl : args.length = vs.length) (i : Nat) (e : Sv) (s : Option V) (h1 : (startE N.length args)[i]? = some e) (h2 : (start N vs)[i]? = some s) :
    (∃ x v, args[i]? = some x ∧ vs[i]? = some v ∧ e = .v x ∧ s = some v) ∨ e = .un := by
  unfold startE at h1
  unfold L2.start at h2
  by_cases hi : i < args.length
  · rw [List.getElem?_append_left (by simpa using hi)] at h1
    rw [List.getElem?_append_left (by simpa [← hl] using hi)] at h2
    rw [List.getElem?_map] at h1 h2
    cases e1 : args[i]? with
    | none => rw [e1] at h1; cases h1
    | some x =>
      cases e2 : vs[i]? with
      | none => rw [e2] at h2; cases h2
      | some v =>
        rw [e1] at h1; rw [e2] at h2
        cases h1; cases h2
        exact .inl ⟨x, v, rfl, rfl, rfl, rfl⟩
  · rw [List.getElem?_append_right (by simpa using hi)] at h1
    rw [List.getElem?_replicate] at h1
    split at h1
    · cases h1; exact .inr rfl
    · cases h1
theorem Rl.start {K : PySem.W.Frag} {cl : Cl} {W : Addr → Prop} {μ : List Addr} {S : Sto} {H : Hp} {N : List Str} {vs : List V} {args : List Vl} (s : Sim K cl W μ S H) (r : Reps K cl (Bn W μ) μ H args vs) : Rl K cl W (List.replicate (start N vs).length none) μ S (startE N.length args) (L2.start N vs) H := by
  have no : ∀ n a, some a ∉ List.replicate n (none : Option Addr) := fun n a z => nomatch (List.eq_of_mem_replicate z)
  have sub : ∀ {n : Nat} (a : Addr), Wo W (List.replicate n none) a → W a := fun a z => z.elim id fun z => (no _ a z).elim
  refine ⟨s.weak sub, by simp [startE, L2.start, r.length], by simp, fun i e o t h1 h2 h3 => ?_, fun i j a h1 _ => (no _ a (List.mem_of_getElem? h1)).elim, fun a z => (no _ a z).elim⟩
  have ho : o = none := List.eq_of_mem_replicate (List.mem_of_getElem? h2)
  rcases start_get r.length i e t h1 h3 with ⟨x, v, a1, a2, rfl, rfl⟩ | rfl
  · obtain ⟨v', b1, b2⟩ := r.get a1
    rw [a2] at b1; cases b1
    exact ⟨ho, v, rfl, b2.mono (Kp.weak sub)⟩
  · exact ho
/-- from a body's mirror to the promise -/
theorem body_ok {K : PySem.W.Frag} {cl : Cl} {N : List Str} {b : SM} {n : Nat} {vs : List V} {H : Hp} {Q : VK} {E : XK} (h : spM K cl n (runM N.length b) vs H Q E) : tS K cl E b { nx := fun _ H' => Q .non H', rt := Q } (start N vs) H := by
  obtain ⟨W, μ, S, args, s, r, _, q⟩ := h
  have no : ∀ {n : Nat} {a : Addr}, some a ∉ List.replicate n (none : Option Addr) := fun z => nomatch (List.eq_of_mem_replicate z)
  have back : ∀ {ω' : List (Option Addr)} {μ' : List Addr} {H' : Hp} {n : Nat}, ExtS (List.replicate n none) μ H ω' μ' H' → Ext μ H μ' H' := fun e => ⟨fun b o q n => e.keep b o q n no, e.dom, e.pre, fun a z => (e.new a (.inl z)).elim .inl fun z => z.elim (fun z => (no z).elim) .inr⟩
  refine ⟨W, _, μ, S, startE N.length args, Rl.start s r, ?_⟩
  unfold runM at q
  revert q
  generalize b (startE N.length args) S = t
  intro q
  cases t with
  | bad => exact q
  | exc c ns xs S' => exact fun μ' H' d s' e' x => q μ' H' d s' (back e') x
  | ok f S' =>
    cases f with
    | nx env => exact fun ω' μ' σ' H' r' e' => q μ' H' (r'.sim.weak wo_left) (back e') .non .non
    | bk env => exact q.elim
    | ct env => exact q.elim
    | rt x => exact fun μ' H' v s' e' r' => q μ' H' s' (back e') v r'
section
variable {P : Program} {w : World} {K : PySem.W.Frag} {mg : Str → Option Value} {base : Heap}
/-- THE RULE for a def -/
theorem fn_ok {cl : Cl} {x qual : Str} {params : Arguments} {body : List Stmt} {scope : Scope} {dvs : List V} {kws : List (Str × V)} {f : Addr} {fd : FuncData} {N ps : List Str} {k : Nat} {b : SM} (F : FunD K x qual params body scope dvs kws f fd) (S : FnScope N ps scope)
    (h : ∀ (cdv : Value) (A : Around) (outer : List Env) (s : Shared) (H : Hp) (E : XK), Room k (A.deeper (PyProof.Rows.envOfC qual scope s.heap.objs.size f cdv)) → PSs (cxOf (L2.CX P w) P w K mg base N qual scope f cdv A outer s H E) body (tS K cl E b)) :
    FnOk P w K mg base (L2.CX P w) (k + 1) f fd ps (spM K cl ps.length (runM N.length b)) :=
  F.ok S (fun vs H Q E h => spM_len h) fun cdv A outer s H vs Q E hr hsp => ⟨_, h cdv A outer s H E hr, body_ok hsp⟩
end
/-! ### its calls -/
section
variable {X : Cx} {cl : Cl} {E : XK} {mA mK : AM} {f : List Vl → Sto → Res Vl} {n : Nat}
def callM (f : List Vl → Sto → Res Vl) (a : AM) : EM := fun env S => (a env S).bind fun xs S1 => f xs S1
/-- .. the defaults xs fill up -/
def callD (f : List Vl → Sto → Res Vl) (ds : List Vl) (a : AM) : EM := fun env S => (a env S).bind fun xs S1 => f (xs ++ ds) S1
theorem sat_call {K : PySem.W.Frag} {W : Addr → Prop} {μ : List Addr} {S : Sto} {H : Hp} {Q : VK} {xs : List Vl} {vs : List V} (s : Sim K cl W μ S H) (r : Reps K cl (Bn W μ) μ H xs vs) (hl : xs.length = n) (q : SatG K cl W μ H (f xs S) (fun x _ μ' H' => ∀ v, Rep K cl (Bn W μ') μ' H' x v → Q v H') E) : spM K cl n f vs H Q E :=
  ⟨W, μ, S, xs, s, r, hl, q⟩
theorem call_t (hn : LenA mA n) {σ : St} {H : Hp} {Q : VK} (h : tD X.K cl E (callM f mA) σ H Q) : tCall (spM X.K cl n f) [] E (tDA X.K cl E mA) σ H Q := by
  obtain ⟨W, ω, μ, S, env, rl, q⟩ := h
  exact ⟨W, ω, μ, S, env, rl, q.bind.mono fun xs S1 μ1 H1 ee s1 e1 q1 vs rs => by
    show spM X.K cl n f (vs ++ []) H1 Q E
    rw [List.append_nil]
    exact sat_call s1 rs (hn _ _ _ _ ee) q1⟩
theorem call_td {k : Nat} {ds : List Vl} {dvs : List V} (hn : LenA mA k) (hk : k + ds.length = n) (hd : ∀ B μ H, Reps X.K cl B μ H ds dvs) {σ : St} {H : Hp} {Q : VK} (h : tD X.K cl E (callD f ds mA) σ H Q) : tCall (spM X.K cl n f) dvs E (tDA X.K cl E mA) σ H Q := by
  obtain ⟨W, ω, μ, S, env, rl, q⟩ := h
  exact ⟨W, ω, μ, S, env, rl, q.bind.mono fun xs S1 μ1 H1 ee s1 e1 q1 vs rs => sat_call s1 (rs.append (hd _ _ _)) (by rw [List.length_append, hn _ _ _ _ ee, hk]) q1⟩
end
end Dm

set_option Elab.async false
set_option linter.all false
set_option maxRecDepth 100000
set_option autoImplicit false
set_option maxHeartbeats 2000000
/-! DmIt: enumerate and zip over lists and tuples in any mix, as what a loop walks. -/
namespace Dm
open PySem PySem.Spec L2
/-! ### a source: a list or a tuple -/
def SqK (k : Bool) (K : PySem.W.Frag) (H : Hp) (a : Addr) (xs : List V) : Prop := if k then SqT K H a xs else SqL K H a xs
def IsK (k : Bool) (h : Heap) (a : Addr) (its : Array Value) : Prop := if k then h.IsTuple a its else h.IsList a its
def ItK (k : Bool) (h : Heap) (it a : Addr) (i : Nat) : Prop := if k then h.IsTupleIter it a i else h.IsListIter it a i
def obK (k : Bool) (a : Addr) : Obj := if k then { cls := .type "tuple_iterator", data := .fields #[.ref a, .int 0 0] } else { cls := .type "list_iterator", data := .fields #[.ref a, .int 0 0] }
theorem src_get {X : Cx} {pins : List (Addr × Obj)} {σ : St} {H : Hp} {s : Shared} {a : Addr} {xs : List V} {k : Bool} (I : Inv X pins σ H s) (h : SqK k X.K H a xs) : ∃ its : List Value, Vals xs its ∧ IsK k s.heap a its.toArray ∧ xs.length ≤ sizeLine := by
  cases k with
  | false =>
    obtain ⟨its, r, p, z⟩ := I.list h
    exact ⟨its, r, p.isList, z⟩
  | true =>
    obtain ⟨its, r, p, z⟩ := I.tuple h
    exact ⟨its, r, p, z⟩
theorem drawK {prog : Program} {w : World} {A : Around} (k : Bool) (hh : A.handled = none) (it a : Addr) (hne : a ≠ it) (items : Array Value) : Draws prog w A it [it, a] items.size (fun i v => items[i]? = some v) (fun i h => ItK k h it a i ∧ IsK k h a items) := by
  cases k with
  | false => exact Draws.list hh it a hne items
  | true => exact Draws.tuple hh it a hne items
theorem beginK (k : Bool) (a : Addr) (items : Array Value) : Begins (.ref a) (obK k a) (fun h => IsK k h a items) := by
  cases k with
  | false => exact begins_list a items
  | true => exact begins_tuple a items
theorem itK_new {k : Bool} {h : Heap} {it a : Addr} (e : h.get? it = some (obK k a)) : ItK k h it a 0 := by
  cases k with
  | false => exact ⟨_, e, rfl, rfl⟩
  | true => exact ⟨_, e, rfl, rfl⟩
theorem itK_at {k : Bool} {h h' : Heap} {it a : Addr} {i : Nat} (x : ItK k h it a i) (e : ∀ o, h.get? it = some o → h'.get? it = some o) : ItK k h' it a i := by
  cases k with
  | false =>
    obtain ⟨o, e1, e2⟩ := x
    exact ⟨o, e o e1, e2⟩
  | true =>
    obtain ⟨o, e1, e2⟩ := x
    exact ⟨o, e o e1, e2⟩
theorem itK_obj {k : Bool} {h : Heap} {it a : Addr} {i : Nat} (x : ItK k h it a i) : ∃ o, h.get? it = some o ∧ ∀ v, o.data ≠ .cell v := by
  cases k with
  | false =>
    obtain ⟨o, e1, _, e2⟩ := x
    exact ⟨o, e1, fun v z => by rw [e2] at z; cases z⟩
  | true =>
    obtain ⟨o, e1, _, e2⟩ := x
    exact ⟨o, e1, fun v z => by rw [e2] at z; cases z⟩
theorem isK_lt {k : Bool} {h : Heap} {a : Addr} {its : Array Value} (x : IsK k h a its) : a < h.objs.size := by
  cases k with
  | false =>
    obtain ⟨o, e, _⟩ := x
    exact Heap.lt_size e
  | true =>
    obtain ⟨o, e, _⟩ := x
    exact Heap.lt_size e
theorem isK_keep {k : Bool} {h h' : Heap} {a : Addr} {its : Array Value} (x : IsK k h a its) (e : ∀ o, h.get? a = some o → h'.get? a = some o) : IsK k h' a its := by
  cases k with
  | false =>
    obtain ⟨o, e1, e2⟩ := x
    exact ⟨o, e o e1, e2⟩
  | true =>
    obtain ⟨o, e1, e2⟩ := x
    exact ⟨o, e o e1, e2⟩
/-! ### enumerate(x) -/
def JEn (k : Bool) (K : PySem.W.Frag) (a : Addr) (xs : List V) : It :=
  ⟨fun i H => i < xs.length ∧ SqK k K H a xs, fun i H v H' => ∃ T x, v = .ref T ∧ H T = none ∧ H' = upd H T (.tup [.int (i : Nat), x]) ∧ xs[i]? = some x, fun i H => xs.length = i ∧ SqK k K H a xs⟩
theorem turn_en {P : Program} {w : World} {K : PySem.W.Frag} {elts : List Expr} {kk : Nat} {tpos : Pos} (k : Bool) (a e it : Addr) (xs : List V) (hne : a ≠ it) (hea : e ≠ a) :
    Turn P w K (.Tuple elts kk tpos) (JEn k K a xs) [e, it] e (fun i h => ((∃ old, IsEnum h e it ((0 : Int) + (i : Int)) old) ∧ ItK k h it a i) ∧ e ≠ it) where
  mem := by simp
  obj := fun i h st b hb => by
    obtain ⟨⟨⟨old, he⟩, hi⟩, _⟩ := st
    rcases (by simpa using hb : b = e ∨ b = it) with z | z
    · rw [z]; exact ⟨_, he, fun v q => nomatch q⟩
    · rw [z]; exact itK_obj hi
  keep := fun i h h' st kp => by
    obtain ⟨⟨⟨old, he⟩, hi⟩, hn⟩ := st
    exact ⟨⟨⟨old, kp e (by simp) _ he⟩, itK_at hi fun o q => kp it (by simp) o q⟩, hn⟩
  item := by
    intro X hP hw hK hc i pins s σ H E I hf st hg
    subst hP hw hK
    obtain ⟨st, hn⟩ := st
    obtain ⟨hlt, hq⟩ := hg
    obtain ⟨its, rv, src, hz⟩ := src_get I hq
    have hl := rv.length
    have G := GoesN.enumFrom (prog := X.prog) (w := X.w) (A := X.A) (elts := elts) (x1 := kk) (pos := tpos) 0 (drawK (prog := X.prog) (w := X.w) (A := X.A.in1) k (I.ok.hd hc) it a hne its.toArray) e hn (by simp [hn, hea]) (by simp)
    refine wpAny_mono (G.goes i s (fun v s2 => ∃ x H', Inv X pins σ H' s2 ∧ RelV x v ∧ (JEn k X.K a xs).yld i H x H' ∧ (((∃ old, IsEnum s2.heap e it ((0 : Int) + ((i + 1 : Nat) : Int)) old) ∧ ItK k s2.heap it a (i + 1)) ∧ e ≠ it) ∧ ∀ b ∈ [e, it], H' b = none) E (by simp; omega) ⟨st.1, st.2, src⟩ ?_) (fun r s1 ⟨v, e1, e2⟩ => ⟨v, e1, e2⟩) fun _ _ z => z
    intro v h' tk ⟨T, t, u, ev, hT, hP, hTup⟩ st' hk _
    subst ev
    obtain ⟨x, hx, rx⟩ : ∃ x, xs[i]? = some x ∧ RelV x u := by
      have hi2 : i < xs.length := hlt
      obtain ⟨u', hu', ru'⟩ := rv.get (List.getElem?_eq_getElem hi2)
      have : u' = u := by
        have z : its.toArray[i]? = some u := hP
        rw [← Array.getElem?_toList] at z
        simp only at z
        rw [hu'] at z
        exact Option.some.inj z
      subst this
      exact ⟨_, List.getElem?_eq_getElem hi2, ru'⟩
    have fresh := I.hok.fresh hT
    have new : ObjOk X.prog X.w (upd H T (.tup [.int (i : Nat), x])) h' T (.tup [.int (i : Nat), x]) := ⟨by show 2 ≤ sizeLine; decide, [.int ((0 : Int) + (i : Int)) t, u], .cons ⟨t, by rw [Int.zero_add]⟩ (.cons rx .nil), hTup⟩
    have I2 := I.turnedNew (t' := tk) (ch := [e, it]) hk hf hT new
    refine ⟨.ref T, _, I2, rfl, ⟨T, x, rfl, fresh, rfl, hx⟩, ⟨⟨st'.1, st'.2.1⟩, hn⟩, fun b hb => ?_⟩
    rw [upd_ne]
    · exact (hf b hb).1
    · intro z
      rw [z] at hb
      obtain ⟨o, ho, _⟩ := (show ∃ o, s.heap.get? T = some o ∧ True from by
        rcases (by simpa using hb : T = e ∨ T = it) with z | z
        · obtain ⟨⟨old, he⟩, _⟩ := st
          exact ⟨_, by rw [z]; exact he, trivial⟩
        · obtain ⟨o, ho, _⟩ := itK_obj st.2
          exact ⟨o, by rw [z]; exact ho, trivial⟩)
      exact absurd (Heap.lt_size ho) (Nat.not_lt.mpr hT)
  done := by
    intro X hP hw hK hc i pins s σ H E I hf st hg
    subst hP hw hK
    obtain ⟨st, hn⟩ := st
    obtain ⟨hlt, hq⟩ := hg
    obtain ⟨its, rv, src, hz⟩ := src_get I hq
    have hl := rv.length
    have G := GoesN.enumFrom (prog := X.prog) (w := X.w) (A := X.A) (elts := elts) (x1 := kk) (pos := tpos) 0 (drawK (prog := X.prog) (w := X.w) (A := X.A.in1) k (I.ok.hd hc) it a hne its.toArray) e hn (by simp [hn, hea]) (by simp)
    have hi : its.toArray.size = i := by simp; omega
    exact G.stops s (fun s1 => Inv X pins σ H s1) E (by rw [hi]; exact ⟨st.1, st.2, src⟩) fun h' tk hk _ => I.turnedL (ch := [e, it]) hk hf
  self := fun A i s Q E st h => by
    obtain ⟨⟨⟨old, he⟩, _⟩, _⟩ := st
    exact wpAny_pyIter_enum he h
set_option maxHeartbeats 2000000 in
theorem enum_new1 {v : Value} {o : Obj} {Hs : Heap → Prop} (B : Begins v o Hs) :
    Meets (Builtin.«enumerate.__new__» ⟨[.type "enumerate", v], []⟩) (fun _ R s => Hs s.heap ∧
      R (.ok (.ret (.ref (s.heap.push o).objs.size))) { s with heap := (s.heap.push o).push { cls := .type "enumerate", data := .fields #[.none, .bool false, .ref s.heap.objs.size, rawInt 0, .none, .none] } }) :=
  .of_wp fun prog w A R s h => by
    obtain ⟨hp, g, d, tk, os⟩ := s
    obtain ⟨h1, h⟩ := h
    have hsub := sub_enumerate
    have itr : ∀ {A' : Around} {E : Value → Shared → Prop} {Q : Value → Shared → Prop}, Q (.ref hp.objs.size) ⟨hp.push o, g, d, tk, os⟩ → wpAny (model prog w) A' (pyIter v) Q E ⟨hp, g, d, tk, os⟩ := fun q => B.iter prog w _ _ ⟨hp, g, d, tk, os⟩ _ h1 q
    wp_walk using itr
    refine wpAny_stack_any fun st => wpAny_pure ?_
    split
    · rename_i c _ _ _ _ _
      cases (c == Value.type "enumerate")
      all_goals (wp_walk using itr; exact ⟨_, rfl, h⟩)
    · wp_walk using itr
      exact ⟨_, rfl, h⟩
theorem call_enum1 {prog : Program} {w : World} {A : Around} {E : Value → Shared → Prop} {s : Shared} {v : Value} {o : Obj} {Hs : Heap → Prop} {Q : Value → Shared → Prop} (B : Begins v o Hs) (h1 : Hs s.heap)
    (h : ∀ h', IsEnum h' (s.heap.objs.size + 1) s.heap.objs.size 0 .none → h'.get? s.heap.objs.size = some o → (∀ b o, s.heap.get? b = some o → h'.get? b = some o) → Q (.ref (s.heap.objs.size + 1)) { s with heap := h' }) :
    wpAny (model prog w) A (call (.type "enumerate") [v]) Q E s := by
  refine callType_new F.called_enumerate (by decide) (F.typeCall_enumerate_1 _) (F.newCall_enumerate_1 _) (fun obj => F.args_object_init_2 obj _) F.entry_enumerate_new (enum_new1 B) ⟨h1, ?_⟩
  have sz : (s.heap.push o).objs.size = s.heap.objs.size + 1 := Heap.size_push ..
  show _ ∧ _
  rw [sz]
  have he : IsEnum ((s.heap.push o).push { cls := .type "enumerate", data := .fields #[.none, .bool false, .ref s.heap.objs.size, rawInt 0, .none, .none] }) (s.heap.objs.size + 1) s.heap.objs.size 0 .none := by
    have z := Heap.get?_push_size (s.heap.push o) (o := { cls := .type "enumerate", data := .fields #[.none, .bool false, .ref s.heap.objs.size, rawInt 0, .none, .none] }) rfl
    rw [sz] at z
    exact z
  exact ⟨⟨_, he, rfl⟩, h _ he (Heap.get?_push_of_some _ (Heap.get?_push_size _ B.free)) fun b o x => Heap.get?_push_of_some _ (Heap.get?_push_of_some _ x)⟩
/-- what is walked, with what the heap holds of lengths -/
def LenOk (H : Hp) : Prop := ∀ a vs, (Rd H a (.lst vs) ∨ Rd H a (.tup vs)) → vs.length ≤ sizeLine
theorem lenOk_of {X : Cx} {pins : List (Addr × Obj)} {σ : St} {H : Hp} {s : Shared} (I : Inv X pins σ H s) : LenOk H := fun a vs h => by
  rcases h with h | h
  · obtain ⟨_, _, _, z⟩ := I.list (a := a) (xs := vs) (.inl h)
    exact z
  · obtain ⟨_, _, _, z⟩ := I.tuple (a := a) (xs := vs) (.inl h)
    exact z
def iEn (K : PySem.W.Frag) (ta : TA) : TI := fun σ H R => ta σ H fun vs H1 => ∃ k a xs, vs = [.ref a] ∧ SqK k K H1 a xs ∧ (LenOk H1 → R (JEn k K a xs) H1)
theorem pi_en {X : Cx} {e : Expr} {ta : TA} {p pos tpos : Pos} {elts : List Expr} {kk : Nat} (hg : Gl X "enumerate") (hm : X.mg "enumerate" = none) (ha : PA X [e] ta) (hs : starEach [e] X.env = [(false, eval e X.env)] := by rfl) :
    PI X (.Tuple elts kk tpos) (.Call (.Name "enumerate" p) [e] [] pos) (iEn X.K ta) := by
  refine ⟨fun pins s σ H R I h => PyProof.Rows.Call_ (ld_blt I hg hm PyProof.Rows.boot_enumerate (PyProof.Rows.callWith_type1 (thn (ha.run pos pins s σ H _ I h) fun us s1 ⟨vs, H1, I1, r1, q1⟩ => ?_) hs rfl))⟩
  obtain ⟨k, a, xs, ex, hq, q⟩ := q1
  subst ex
  obtain ⟨u, rfl, ru⟩ := vals1 r1
  cases ru
  obtain ⟨its, rv, src, hz⟩ := src_get I1 hq
  have la := isK_lt src
  refine call_enum1 (beginK k a its.toArray) src fun h' he hit hk => wpAny_pyIter_enum he ?_
  have I2 : Inv X pins σ H1 { s1 with heap := h' } := I1.kept (t' := s1.toks) hk
  refine ⟨s1.heap.objs.size + 1, [s1.heap.objs.size + 1, s1.heap.objs.size], _, _, H1, rfl, I2, turn_en k a (s1.heap.objs.size + 1) s1.heap.objs.size xs (Nat.ne_of_lt la) (Nat.ne_of_gt (Nat.lt_succ_of_lt la)), ⟨⟨⟨.none, ?_⟩, itK_new hit⟩, Nat.succ_ne_self _⟩, fun b hb => ?_, q (lenOk_of I2)⟩
  · exact he
  · have hle : s1.heap.objs.size ≤ b := by
      rcases (by simpa using hb : b = s1.heap.objs.size + 1 ∨ b = s1.heap.objs.size) with z | z
      · rw [z]; exact Nat.le_add_right _ _
      · rw [z]; exact Nat.le_refl _
    exact I1.fpOk hle (I1.hok.fresh hle)
/-! ### zip(x, y) -/
def JZp (k k2 : Bool) (K : PySem.W.Frag) (a b : Addr) (xs ys : List V) : It :=
  ⟨fun i H => i < min xs.length ys.length ∧ SqK k K H a xs ∧ SqK k2 K H b ys, fun i H v H' => ∃ T x y, v = .ref T ∧ H T = none ∧ H' = upd H T (.tup [x, y]) ∧ xs[i]? = some x ∧ ys[i]? = some y, fun i H => min xs.length ys.length = i ∧ SqK k K H a xs ∧ SqK k2 K H b ys⟩
theorem val_at {xs : List V} {its : List Value} {i : Nat} {u : Value} (rv : Vals xs its) (hi : i < xs.length) (hu : its.toArray[i]? = some u) : ∃ x, xs[i]? = some x ∧ RelV x u := by
  obtain ⟨u', h1, h2⟩ := rv.get (List.getElem?_eq_getElem hi)
  have z : its[i]? = some u := by simpa using hu
  rw [h1] at z
  cases z
  exact ⟨_, List.getElem?_eq_getElem hi, h2⟩
theorem turn_zp {P : Program} {w : World} {K : PySem.W.Frag} {elts : List Expr} {kk : Nat} {tpos : Pos} (k k2 : Bool) (a b z TI TO i1 i2 : Addr) (xs ys : List V) (n1 : a ≠ i1) (n2 : b ≠ i2) (S : ZipSep2 z TI TO i1 i2 [i1, a] [i2, b]) :
    Turn P w K (.Tuple elts kk tpos) (JZp k k2 K a b xs ys) [z, TI, TO, i1, i2] z (fun i h => IsZip h z TI TO .none ∧ IsTupOf2 h TI (.ref i1) (.ref i2) ∧ (∃ a1 a2, IsTupOf2 h TO a1 a2) ∧ ItK k h i1 a i ∧ ItK k2 h i2 b i) where
  mem := by simp
  obj := fun i h st c hc => by
    obtain ⟨h1, h2, ⟨a1, a2, h3⟩, h4, h5⟩ := st
    rcases (by simpa using hc : c = z ∨ c = TI ∨ c = TO ∨ c = i1 ∨ c = i2) with q | q | q | q | q
    · rw [q]; exact ⟨_, h1, fun v q => nomatch q⟩
    · rw [q]; exact ⟨_, h2, fun v q => nomatch q⟩
    · rw [q]; exact ⟨_, h3, fun v q => nomatch q⟩
    · rw [q]; exact itK_obj h4
    · rw [q]; exact itK_obj h5
  keep := fun i h h' st kp => by
    obtain ⟨h1, h2, ⟨a1, a2, h3⟩, h4, h5⟩ := st
    exact ⟨kp z (by simp) _ h1, kp TI (by simp) _ h2, ⟨a1, a2, kp TO (by simp) _ h3⟩, itK_at h4 fun o q => kp i1 (by simp) o q, itK_at h5 fun o q => kp i2 (by simp) o q⟩
  item := by
    intro X hP hw hK hc i pins s σ H E I hf st hg
    subst hP hw hK
    obtain ⟨hlt, hq, hq2⟩ := hg
    obtain ⟨its, rv, src, hz⟩ := src_get I hq
    obtain ⟨its2, rv2, src2, hz2⟩ := src_get I hq2
    have hl := rv.length
    have hl2 := rv2.length
    have G := GoesN.zip2 (prog := X.prog) (w := X.w) (A := X.A) (elts := elts) (x1 := kk) (pos := tpos) S (drawK (prog := X.prog) (w := X.w) (A := X.A.in1) k (I.ok.hd hc) i1 a n1 its.toArray) (drawK (prog := X.prog) (w := X.w) (A := X.A.in1) k2 (I.ok.hd hc) i2 b n2 its2.toArray)
    obtain ⟨t1, t2, t3, t4, t5⟩ := st
    have lts : ∀ c ∈ [z, TI, TO, i1, i2], c < s.heap.objs.size := fun c hcm => by
      have h2 := t2
      obtain ⟨a1, a2, h3⟩ := id t3
      obtain ⟨o4, h4, _⟩ := itK_obj t4
      obtain ⟨o5, h5, _⟩ := itK_obj t5
      rcases (by simpa using hcm : c = z ∨ c = TI ∨ c = TO ∨ c = i1 ∨ c = i2) with q | q | q | q | q
      · rw [q]; exact Heap.lt_size t1
      · rw [q]; exact Heap.lt_size h2
      · rw [q]; exact Heap.lt_size h3
      · rw [q]; exact Heap.lt_size h4
      · rw [q]; exact Heap.lt_size h5
    refine wpAny_mono (G.goes i s (fun v s2 => ∃ x H', Inv X pins σ H' s2 ∧ RelV x v ∧ (JZp k k2 X.K a b xs ys).yld i H x H' ∧ (IsZip s2.heap z TI TO .none ∧ IsTupOf2 s2.heap TI (.ref i1) (.ref i2) ∧ (∃ a1 a2, IsTupOf2 s2.heap TO a1 a2) ∧ ItK k s2.heap i1 a (i + 1) ∧ ItK k2 s2.heap i2 b (i + 1)) ∧ ∀ b ∈ [z, TI, TO, i1, i2], H' b = none) E (by simp; omega) ⟨t1, t2, t3, ⟨t4, src⟩, ⟨t5, src2⟩⟩ ?_) (fun r s1 ⟨v, e1, e2⟩ => ⟨v, e1, e2⟩) fun _ _ z => z
    intro v h' tk ⟨T, u1, u2, ev, hT, hP1, hP2, hTup⟩ st' hk _
    subst ev
    obtain ⟨x, hx, rx⟩ := val_at rv (by omega) hP1
    obtain ⟨y, hy, ry⟩ := val_at rv2 (by omega) hP2
    have fresh := I.hok.fresh hT
    have new : ObjOk X.prog X.w (upd H T (.tup [x, y])) h' T (.tup [x, y]) := ⟨by show 2 ≤ sizeLine; decide, [u1, u2], .cons rx (.cons ry .nil), hTup⟩
    have I2 := I.turnedNew (t' := tk) (ch := [z, TO, i1, i2]) hk (fun c hcm => hf c (by
      rcases (by simpa using hcm : c = z ∨ c = TO ∨ c = i1 ∨ c = i2) with q | q | q | q <;> simp [q])) hT new
    refine ⟨.ref T, _, I2, rfl, ⟨T, x, y, rfl, fresh, rfl, hx, hy⟩, ⟨st'.1, st'.2.1, st'.2.2.1, st'.2.2.2.1.1, st'.2.2.2.2.1⟩, fun c hcm => ?_⟩
    rw [upd_ne]
    · exact (hf c hcm).1
    · intro zz
      rw [zz] at hcm
      exact absurd (lts T hcm) (Nat.not_lt.mpr hT)
  done := by
    intro X hP hw hK hc i pins s σ H E I hf st hg
    subst hP hw hK
    obtain ⟨hlt, hq, hq2⟩ := hg
    obtain ⟨its, rv, src, hz⟩ := src_get I hq
    obtain ⟨its2, rv2, src2, hz2⟩ := src_get I hq2
    have hl := rv.length
    have hl2 := rv2.length
    have G := GoesN.zip2 (prog := X.prog) (w := X.w) (A := X.A) (elts := elts) (x1 := kk) (pos := tpos) S (drawK (prog := X.prog) (w := X.w) (A := X.A.in1) k (I.ok.hd hc) i1 a n1 its.toArray) (drawK (prog := X.prog) (w := X.w) (A := X.A.in1) k2 (I.ok.hd hc) i2 b n2 its2.toArray)
    obtain ⟨t1, t2, t3, t4, t5⟩ := st
    have hi : min its.toArray.size its2.toArray.size = i := by simp; omega
    exact G.stops s (fun s1 => Inv X pins σ H s1) E (by rw [hi]; exact ⟨t1, t2, t3, ⟨t4, src⟩, ⟨t5, src2⟩⟩) fun h' tk hk _ => I.turnedL (ch := [z, TO, i1, i2]) hk fun c hcm => hf c (by
      rcases (by simpa using hcm : c = z ∨ c = TO ∨ c = i1 ∨ c = i2) with q | q | q | q <;> simp [q])
  self := fun A i s Q E st h => wpAny_pyIter_zip st.1 h
def iZp (K : PySem.W.Frag) (ta : TA) : TI := fun σ H R => ta σ H fun vs H1 => ∃ k k2 a b xs ys, vs = [.ref a, .ref b] ∧ SqK k K H1 a xs ∧ SqK k2 K H1 b ys ∧ (LenOk H1 → R (JZp k k2 K a b xs ys) H1)
theorem off_z {N j : Nat} (h : 0 < j) : N ≠ N + j := by omega
theorem pi_zp {X : Cx} {e e2 : Expr} {ta : TA} {p pos tpos : Pos} {elts : List Expr} {kk : Nat} (hg : Gl X "zip") (hm : X.mg "zip" = none) (ha : PA X [e, e2] ta)
    (hs : starEach [e, e2] X.env = (false, eval e X.env) :: starEach [e2] X.env := by rfl) (hpl : (backTo pos (starEach [e2] X.env)).any (·.1) = false := by rfl) :
    PI X (.Tuple elts kk tpos) (.Call (.Name "zip" p) [e, e2] [] pos) (iZp X.K ta) := by
  refine ⟨fun pins s σ H R I h => PyProof.Rows.Call_ (ld_blt I hg hm PyProof.Rows.boot_zip (PyProof.Rows.callWith_type1 (thn (ha.run pos pins s σ H _ I h) fun us s1 ⟨vs, H1, I1, r1, q1⟩ => ?_) hs hpl))⟩
  obtain ⟨k, k2, a, b, xs, ys, ex, hq, hq2, q⟩ := q1
  subst ex
  obtain ⟨u, u2, rfl, ru, ru2⟩ := vals2 r1
  cases ru
  cases ru2
  obtain ⟨its, rv, src, hz⟩ := src_get I1 hq
  obtain ⟨its2, rv2, src2, hz2⟩ := src_get I1 hq2
  have la : a < s1.heap.objs.size := isK_lt src
  have lb : b < s1.heap.objs.size := isK_lt src2
  refine zip_begins2 (beginK k a its.toArray) (beginK k2 b its2.toArray) src src2 fun h' g1 g2 g3 g4 g5 _ hk => wpAny_pyIter_zip g1 ?_
  have I2 : Inv X pins σ H1 { s1 with heap := h' } := I1.kept (t' := s1.toks) hk
  refine ⟨s1.heap.objs.size + 4, [s1.heap.objs.size + 4, s1.heap.objs.size + 2, s1.heap.objs.size + 3, s1.heap.objs.size, s1.heap.objs.size + 1], _, _, H1, rfl, I2,
    turn_zp k k2 a b _ _ _ _ _ xs ys (Nat.ne_of_lt la) (Nat.ne_of_lt (Nat.lt_succ_of_lt lb)) (zip_sep2 (fp1 := [a]) (fp2 := [b]) (fun c hc => by rw [List.mem_singleton.mp hc]; exact la) fun c hc => by rw [List.mem_singleton.mp hc]; exact lb), ⟨g1, g2, ⟨_, _, g3⟩, itK_new g4, itK_new g5⟩, fun c hc => ?_, q (lenOk_of I2)⟩
  have hle : s1.heap.objs.size ≤ c := by
    rcases (by simpa using hc : c = s1.heap.objs.size + 4 ∨ c = s1.heap.objs.size + 2 ∨ c = s1.heap.objs.size + 3 ∨ c = s1.heap.objs.size ∨ c = s1.heap.objs.size + 1) with z | z | z | z | z
    all_goals (rw [z]; first | exact Nat.le_add_right _ _ | exact Nat.le_refl _)
  exact I1.fpOk hle (I1.hok.fresh hle)
end Dm

set_option Elab.async false
set_option linter.all false
set_option maxRecDepth 100000
set_option autoImplicit false
set_option maxHeartbeats 1000000
/-! Dm6: targets, loops, comprehensions by mirrors. -/
namespace Dm
open PySem PySem.Spec L2
/-! ### targets -/
abbrev TF := Vl → List Sv → Option (List Sv)
abbrev TFs := List Vl → List Sv → Option (List Sv)
def tfN (i : Nat) : TF := fun x env => some (env.set i (.v x))
def tfT (f : TFs) : TF := fun x env => match x with
  | .tup xs => f xs env
  | _ => none
def tfNil : TFs := fun xs env => match xs with
  | [] => some env
  | _ => none
def tfCons (f : TF) (g : TFs) : TFs := fun xs env => match xs with
  | x :: r => match f x env with
    | some env1 => g r env1
    | none => none
  | [] => none
theorem wipe_set {σ : St} {i : Nat} {x : Option V} : ∀ {vs : List Nat}, wipe (σ.set i x) vs = if i ∈ vs then wipe σ vs else (wipe σ vs).set i x
  | [] => by simp [wipe]
  | v :: vs => by
    unfold wipe
    rw [wipe_set (vs := vs)]
    by_cases hv : i = v
    · subst hv
      by_cases hm : i ∈ vs
      · simp [hm]
      · simp [hm, List.set_set]
    · by_cases hm : i ∈ vs
      · simp [hm]
      · simp [hm, hv]
        rw [List.set_comm _ _ hv]
theorem wipe_wipe (σ : St) (vs : List Nat) : wipe (wipe σ vs) vs = wipe σ vs := by
  have key : ∀ (ws : List Nat), (∀ w ∈ ws, w ∈ vs) → wipe (wipe σ ws) vs = wipe σ vs := by
    intro ws
    induction ws with
    | nil => intro _; rfl
    | cons v ws ih =>
      intro h
      show wipe ((wipe σ ws).set v none) vs = wipe σ vs
      rw [wipe_set, if_pos (h v (List.mem_cons_self ..))]
      exact ih fun w hw => h w (List.mem_cons_of_mem _ hw)
  exact key vs fun w h => h
structure TgR (K : PySem.W.Frag) (cl : Cl) (W : Addr → Prop) (ω : List (Option Addr)) (μ : List Addr) (S : Sto) (σ : St) (H : Hp) (env1 : List Sv) (ix : List Nat) (ω' : List (Option Addr)) (σ' : St) : Prop where
  rl : Rl K cl W ω' μ S env1 σ' H
  sub : ∀ a, some a ∈ ω' → some a ∈ ω
  wp : ∀ vs : List Nat, (∀ i ∈ ix, i ∈ vs) → wipe σ' vs = wipe σ vs
  same : (∀ i ∈ ix, ∀ a, ω[i]? ≠ some (some a)) → ω' = ω
def TgOk (K : PySem.W.Frag) (cl : Cl) (g : TG) (f : TF) (ix : List Nat) : Prop := ∀ (W : Addr → Prop) (ω : List (Option Addr)) (μ : List Addr) (S : Sto) (env env1 : List Sv) (σ : St) (H : Hp) (x : Vl) (v : V) (Q : St → Hp → Prop), Rl K cl W ω μ S env σ H → Rep K cl (Bn (Wo W ω) μ) μ H x v → f x env = some env1 →
  (∀ ω' σ', TgR K cl W ω μ S σ H env1 ix ω' σ' → Q σ' H) → g v σ H Q
def TgsOk (K : PySem.W.Frag) (cl : Cl) (g : TGs) (f : TFs) (ix : List Nat) : Prop := ∀ (W : Addr → Prop) (ω : List (Option Addr)) (μ : List Addr) (S : Sto) (env env1 : List Sv) (σ : St) (H : Hp) (xs : List Vl) (vs : List V) (Q : St → Hp → Prop), Rl K cl W ω μ S env σ H → Reps K cl (Bn (Wo W ω) μ) μ H xs vs → f xs env = some env1 →
  (∀ ω' σ', TgR K cl W ω μ S σ H env1 ix ω' σ' → Q σ' H) → g vs σ H Q
theorem set_none_same : ∀ {ω : List (Option Addr)} {i : Nat}, (∀ a, ω[i]? ≠ some (some a)) → ω.set i none = ω
  | [], _, _ => rfl
  | none :: ω, 0, _ => rfl
  | some a :: ω, 0, h => absurd rfl (h a)
  | o :: ω, i + 1, h => by
    show o :: ω.set i none = o :: ω
    rw [set_none_same fun a => by simpa using h a]
section
variable {K : PySem.W.Frag} {cl : Cl}
theorem tg_name (i : Nat) : TgOk K cl (gName i) (tfN i) [i] := fun W ω μ S env env1 σ H x v Q rl rv h k => by
  cases h
  exact k _ _ ⟨rl.set rv i, fun _ z => mem_set_none z, fun vs hv => by rw [wipe_set, if_pos (hv i (by simp))], fun hn => set_none_same (hn i (by simp))⟩
theorem tgs_nil : TgsOk K cl gNil tfNil [] := fun W ω μ S env env1 σ H xs vs Q rl rv h k => by
  cases rv with
  | nil =>
    cases h
    exact ⟨rfl, k _ _ ⟨rl, fun _ z => z, fun vs _ => rfl, fun _ => rfl⟩⟩
  | cons r rs => cases h
theorem tgs_cons {g : TG} {gs : TGs} {f : TF} {fs : TFs} {ix iy : List Nat} (h1 : TgOk K cl g f ix) (h2 : TgsOk K cl gs fs iy) : TgsOk K cl (gCons g gs) (tfCons f fs) (ix ++ iy) := fun W ω μ S env env1 σ H xs vs Q rl rv h k => by
  cases rv with
  | nil => cases h
  | @cons x xs v vs r rs =>
    unfold tfCons at h
    dsimp only at h
    cases e : f x env with
    | none => rw [e] at h; cases h
    | some env2 =>
      rw [e] at h
      refine ⟨v, vs, rfl, h1 W ω μ S env env2 σ H x v _ rl r e fun ω' σ' t => ?_⟩
      refine h2 W ω' μ S env2 env1 σ' H xs vs Q t.rl (rs.mono (Kp.weak fun a z => z.elim .inl fun z => .inr (t.sub a z))) h fun ω2 σ2 t2 => ?_
      exact k ω2 σ2 ⟨t2.rl, fun a z => t.sub a (t2.sub a z), fun vs hv => (t2.wp vs fun i hi => hv i (List.mem_append_right _ hi)).trans (t.wp vs fun i hi => hv i (List.mem_append_left _ hi)), fun hn => by
        have z := t.same fun i hi => hn i (List.mem_append_left _ hi)
        rw [← z]
        exact t2.same fun i hi => by rw [z]; exact hn i (List.mem_append_right _ hi)⟩
/-- how many items a row of targets takes -/
def TfLen (f : TFs) (n : Nat) : Prop := ∀ xs env env1, f xs env = some env1 → xs.length = n
theorem tfl_nil : TfLen tfNil 0 := fun xs env env1 h => by
  cases xs with
  | nil => rfl
  | cons x xs => cases h
theorem tfl_cons {f : TF} {fs : TFs} {n : Nat} (h : TfLen fs n) : TfLen (tfCons f fs) (n + 1) := fun xs env env1 q => by
  cases xs with
  | nil => cases q
  | cons x xs =>
    unfold tfCons at q
    dsimp only at q
    cases e : f x env with
    | none => rw [e] at q; cases q
    | some env2 =>
      rw [e] at q
      exact congrArg (· + 1) (h _ _ _ q)
theorem tg_tup {gs : TGs} {fs : TFs} {ix : List Nat} {n : Nat} (h : TgsOk K cl gs fs ix) (hn : TfLen fs n) : TgOk K cl (gTup K n gs) (tfT fs) ix := fun W ω μ S env env1 σ H x v Q rl rv e k => by
  unfold tfT at e
  cases rv with
  | @tup xs a vs h1 h2 rs => exact ⟨a, vs, rfl, .of h1, by rw [← rs.length]; exact hn _ _ _ e, h W ω μ S env env1 σ H xs vs Q rl rs e k⟩
  | _ => cases e
end
/-- target = e -/
def asgS (f : TF) (m : EM) : SM := fun env S => (m env S).bind fun x S1 => match f x env with
  | some env1 => .ok (.nx env1) S1
  | none => .bad
section
variable {X : Cx} {cl : Cl} {E : XK} {st : Stmt} {sts : List Stmt} {b : SM} {m m1 m2 : EM} {i j : Nat} {e : Expr} {pos : Pos} {g : TG} {f : TF} {ix : List Nat}
theorem ds_asg {te : TE} (h : PS X st (tAsg te g)) (hg : TgOk X.K cl g f ix) (hi : ∀ σ H Q, tD X.K cl E m σ H Q → te σ H Q) : PS X st (tS X.K cl E (asgS f m)) := h.imp fun D σ H ⟨W, ω, μ, S, env, rl, q⟩ =>
  hi _ _ _ ⟨W, ω, μ, S, env, rl, q.ofG.mono fun x S1 μ1 H1 _ s1 e1 q1 v rv => by
    cases e2 : f x env with
    | none => rw [e2] at q1; exact q1.elim
    | some env1 =>
      rw [e2] at q1
      exact hg W ω μ1 S1 env env1 σ H1 x v _ (rl.ext e1 s1) rv e2 fun ω' σ' t => q1 ω' μ1 σ' H1 t.rl (ExtS.refl.drop t.sub)⟩
/-! ### what is walked -/
abbrev IM := List Sv → Sto → Res (List Vl)
structure ItOk (K : PySem.W.Frag) (cl : Cl) (J : It) (N : Addr → Prop) (B : Addr → Prop) (μ : List Addr) (H0 : Hp) (xs : List Vl) : Prop where
  len : xs.length ≤ sizeLine
  go : ∀ i H, i < xs.length → (∀ a o, H0 a = some o → ¬ N a → H a = some o) → J.go i H
  stop : ∀ H, (∀ a o, H0 a = some o → ¬ N a → H a = some o) → J.stop xs.length H
  yld : ∀ i H v H' B' μ', i < xs.length → (∀ a o, H0 a = some o → ¬ N a → H a = some o) → Kp B B' μ μ' H0 H → (∀ a, B' a → NT (H a)) → J.yld i H v H' → ∃ x, xs[i]? = some x ∧ Rep K cl B' μ' H' x v ∧ (H' = H ∨ ∃ T o, H T = none ∧ H' = upd H T o)
/-- what a loop (st), a comprehension may change meanwhile -/
def Nn (st : Bool) (ω : List (Option Addr)) (μ : List Addr) : Addr → Prop := fun a => a ∈ μ ∨ (st = true ∧ some a ∈ ω)
def tI (st : Bool) (K : PySem.W.Frag) (cl : Cl) (E : XK) (im : IM) : TI := fun σ H R => ∃ W ω μ S env, Rl K cl W ω μ S env σ H ∧
  SatG K cl (Wo W ω) μ H (im env S) (fun xs S' μ' H' => ∀ J, ItOk K cl J (Nn st ω μ') (Bn (Wo W ω) μ') μ' H' xs → R J H') E
theorem _root_.L2.PI.imp {tg : Expr} {wi wi' : TI} (h : PI X tg e wi) (k : ∀ σ H R, wi' σ H R → wi σ H R) : PI X tg e wi' := ⟨fun pins s σ H R I q => h.run pins s σ H R I (k σ H R q)⟩
theorem pi_len {tg : Expr} {wi : TI} (h : PI X tg e wi) : PI X tg e (fun σ H R => wi σ H fun J H1 => LenOk H1 → R J H1) := ⟨fun pins s σ H R I hw => thn (h.run pins s σ H _ I hw) fun v s1 h1 => thn h1 fun itv s2 ⟨it, fp, tn, J, H', e, I', T, st, f, r⟩ => ⟨it, fp, tn, J, H', e, I', T, st, f, r (lenOk_of I')⟩⟩
theorem pi_or {tg : Expr} {w1 w2 : TI} (h1 : PI X tg e w1) (h2 : PI X tg e w2) : PI X tg e (fun σ H R => w1 σ H R ∨ w2 σ H R) := ⟨fun pins s σ H R I q => q.elim (h1.run pins s σ H R I) (h2.run pins s σ H R I)⟩
/-! #### a loop -/
def loopS (f : TF) (b : SM) : List Vl → List Sv → Sto → Res Fl
  | [], env, S => .ok (.nx env) S
  | x :: xs, env, S => match f x env with
    | none => .bad
    | some env1 => (b env1 S).bind fun fl S1 => match fl with
      | .nx env2 => loopS f b xs env2 S1
      | .ct env2 => loopS f b xs env2 S1
      | .bk env2 => .ok (.nx env2) S1
      | .rt y => .ok (.rt y) S1
def forS (im : IM) (f : TF) (b : SM) : SM := fun env S => (im env S).bind fun xs S1 => loopS f b xs env S1
theorem kp_of {K : PySem.W.Frag} {W : Addr → Prop} {ω ω' : List (Option Addr)} {μ μ' : List Addr} {H H' : Hp} (e : ExtS ω μ H ω' μ' H') : Kp (Bn (Wo W ω) μ) (Bn (Wo W ω') μ') μ μ' H H' where
  obj := fun a o h n => ⟨e.keep a o h (fun z => n (.inl z)) fun z => n (.inr (.inr z)), fun z => by
    rcases z with z | z | z
    · rcases e.new a (.inl z) with z | z | z
      · exact n (.inl z)
      · exact n (.inr (.inr z))
      · rw [h] at z; cases z
    · exact n (.inr (.inl z))
    · rcases e.new a (.inr z) with z | z | z
      · exact n (.inl z)
      · exact n (.inr (.inr z))
      · rw [h] at z; cases z⟩
  num := e.pre
theorem for_ok {tb : TS} (hg : TgOk X.K cl g f ix) (hb : ∀ D σ H, tS X.K cl E b D σ H → tb D σ H) {D : Ends} {W : Addr → Prop} {ω : List (Option Addr)} {μ : List Addr} {S : Sto} {env : List Sv} {σ : St} {H : Hp} {xs : List Vl} {J : It}
    (rl : Rl X.K cl W ω μ S env σ H) (io : ItOk X.K cl J (Nn true ω μ) (Bn (Wo W ω) μ) μ H xs) (q : SatF X.K cl W ω μ H (loopS f b xs env S) D E) :
    ∃ W : Nat → Nat → St → Hp → Prop, (∃ m, W 0 m σ H) ∧ ∀ i m σ H, W i m σ H →
      (J.stop i H ∧ D.nx σ H) ∨ (J.go i H ∧ ∃ N : St → Hp → Prop, (∀ σ' H', N σ' H' → ∃ m', m' < m ∧ W (i + 1) m' σ' H') ∧ ∀ x H', J.yld i H x H' → g x σ H' fun σ2 H2 => tb { D with nx := N, ct := N, bk := D.nx } σ2 H2) := by
  have std : ∀ {ω' : List (Option Addr)} {μ' : List Addr} {H' : Hp}, ExtS ω μ H ω' μ' H' → ∀ a o, H a = some o → ¬ Nn true ω μ a → H' a = some o := fun e a o h n => e.keep a o h (fun z => n (.inl z)) fun z => n (.inr ⟨rfl, z⟩)
  let Pv : Nat → St → Hp → Prop := fun i σ' H' => ∃ ω' μ' S' env', Rl X.K cl W ω' μ' S' env' σ' H' ∧ ExtS ω μ H ω' μ' H' ∧ SatF X.K cl W ω μ H (loopS f b (xs.drop i) env' S') D E
  refine ⟨fun i m σ' H' => m = xs.length - i ∧ i ≤ xs.length ∧ Pv i σ' H', ⟨xs.length, by simp, Nat.zero_le _, ω, μ, S, env, rl, ExtS.refl, q⟩, ?_⟩
  rintro i m σ' H' ⟨rfl, hi, ω', μ', S', env', r', e', q'⟩
  by_cases hlt : i < xs.length
  · refine .inr ⟨io.go i H' hlt (std e'), Pv (i + 1), fun σ2 H2 p => ⟨xs.length - (i + 1), by omega, rfl, hlt, p⟩, fun v H2 y => ?_⟩
    obtain ⟨x, hx, rv, hH⟩ := io.yld i H' v H2 (Bn (Wo W ω') μ') μ' hlt (std e') (kp_of (K := X.K) e') (fun a z => r'.sim.nts z) y
    have ed : xs.drop i = x :: xs.drop (i + 1) := by
      rw [List.drop_eq_getElem_cons hlt]
      congr 1
      exact Option.some.inj ((List.getElem?_eq_getElem hlt).symm.trans hx)
    rw [ed] at q'
    have x2 : Ext μ' H' μ' H2 ∧ Rl X.K cl W ω' μ' S' env' σ' H2 := by
      rcases hH with z | ⟨T, o, hT, z⟩
      · rw [z]; exact ⟨Ext.refl, r'⟩
      · rw [z]; exact ⟨Ext.fresh hT, r'.fresh hT⟩
    unfold loopS at q'
    cases ef : f x env' with
    | none => rw [ef] at q'; exact q'.elim
    | some env1 =>
      rw [ef] at q'
      dsimp only at q'
      refine hg W ω' μ' S' env' env1 σ' H2 x v _ x2.2 rv ef fun ω2 σ2 t => hb _ _ _ ⟨W, ω2, μ', S', env1, t.rl, ?_⟩
      have ee : ExtS ω μ H ω2 μ' H2 := (e'.trans x2.1.s).drop t.sub
      revert q'
      generalize b env1 S' = r
      intro q'
      cases r with
      | bad => exact q'
      | exc c ns ys S2 => exact fun μ3 H3 d s3 e3 x3 => q' μ3 H3 d s3 (ee.trans e3) x3
      | ok fl S2 =>
        cases fl with
        | nx env2 => exact fun ω3 μ3 σ3 H3 r3 e3 => ⟨ω3, μ3, S2, env2, r3, ee.trans e3, q'⟩
        | ct env2 => exact fun ω3 μ3 σ3 H3 r3 e3 => ⟨ω3, μ3, S2, env2, r3, ee.trans e3, q'⟩
        | bk env2 => exact fun ω3 μ3 σ3 H3 r3 e3 => q' ω3 μ3 σ3 H3 r3 (ee.trans e3)
        | rt y => exact fun μ3 H3 v3 s3 e3 r3 => q' μ3 H3 v3 s3 (ee.trans e3) r3
  · have ei : i = xs.length := by omega
    subst ei
    rw [List.drop_length] at q'
    exact .inl ⟨io.stop H' (std e'), q' ω' μ' σ' H' r' e'⟩
theorem ds_for {tg iter : Expr} {body : List Stmt} {im : IM} (hp : PassesOwn (model X.prog X.w) X.A X.env X.xe) (hc : X.calm = true) (hi : PI X tg iter (tI true X.K cl E im)) (hg : PG X tg g) (ho : TgOk X.K cl g f ix) (hb : PSs X body (tS X.K cl E b))
    (hs : ∀ x, foldedSetIterable iter X.env x = pure x := by intro _; rfl) : PS X (.For tg iter body [] pos) (tS X.K cl E (forS im f b)) :=
  (ps_for hp hc hi hg hb hs).imp fun D σ H ⟨W, ω, μ, S, env, rl, q⟩ => ⟨W, ω, μ, S, env, rl, q.ofG.mono fun xs S1 μ1 H1 _ s1 e1 q1 J io => for_ok ho (fun _ _ _ h => h) (rl.ext e1 s1) io q1⟩
end
end Dm

set_option Elab.async false
set_option linter.all false
set_option maxRecDepth 100000
set_option autoImplicit false
set_option maxHeartbeats 1000000
/-! Dm7: comprehensions; what is walked: lists, tuples, ranges, enumerate, zip, texts; while. -/
namespace Dm
open PySem PySem.Spec L2
/-- nothing raised -/
def Res.nox {α : Type} (r : Res α) : Res α := match r with
  | .ok a S => .ok a S
  | _ => .bad
@[simp] theorem nox_ok {α : Type} (a : α) (S : Sto) : (Res.ok a S).nox = .ok a S := rfl
theorem SatG.nox {α β : Type} {K : PySem.W.Frag} {cl : Cl} {W : Addr → Prop} {μ : List Addr} {H : Hp} {r : Res α} {k : α → Sto → Res β} {P : β → Sto → List Addr → Hp → Prop} {E E' : XK} (h : SatG K cl W μ H (r.nox.bind k) P E) :
    SatG K cl W μ H r (fun a S1 μ1 H1 => SatG K cl W μ1 H1 (k a S1) P E) E' := by
  cases r with
  | bad => exact h.elim
  | exc c ns xs S => exact h.elim
  | ok a S1 => exact h.bind (r := .ok a S1)
def wipeE : List Nat → List Sv → Option (List Sv)
  | [], env => some env
  | v :: vs, env => match wipeE vs env with
    | none => none
    | some e1 => match e1[v]? with
      | some (.ow _) => none
      | some (.sf _ _) => none
      | _ => some (e1.set v .un)
theorem Rl.wipe {K : PySem.W.Frag} {cl : Cl} {W : Addr → Prop} {ω : List (Option Addr)} {μ : List Addr} {S : Sto} {env : List Sv} {σ : St} {H : Hp} (rl : Rl K cl W ω μ S env σ H) : ∀ {vs : List Nat} {e1 : List Sv}, wipeE vs env = some e1 → Rl K cl W ω μ S e1 (L2.wipe σ vs) H
  | [], _, h => by cases h; exact rl
  | v :: vs, e1, h => by
    unfold wipeE at h
    cases e2 : wipeE vs env with
    | none => rw [e2] at h; cases h
    | some e3 =>
      rw [e2] at h
      have r := Rl.wipe rl e2
      dsimp only at h
      have hno : ∀ x, e3[v]? ≠ some (.ow x) := fun x z => by rw [z] at h; cases h
      have hno2 : ∀ a x, e3[v]? ≠ some (.sf a x) := fun a x z => by rw [z] at h; cases h
      have he : e1 = e3.set v .un := by
        split at h
        · cases h
        · cases h
        · exact (Option.some.inj h).symm
      subst he
      show Rl K cl W ω μ S (e3.set v .un) ((L2.wipe σ vs).set v none) H
      refine ⟨r.sim, by simp [r.l1], by simp [r.l2], fun j e o s h1 h2 h3 => ?_, r.od, r.ow⟩
      by_cases hj : j = v
      · subst hj
        have hl := (List.getElem?_eq_some_iff.mp h1).1
        rw [List.length_set] at hl
        rw [List.getElem?_set_self hl] at h1
        cases h1
        obtain ⟨o', s', g1, g2, g3⟩ := r.slot (List.getElem?_eq_getElem hl)
        rw [h2] at g1
        cases g1
        cases hz : e3[j] with
        | un => rw [hz] at g3; exact g3
        | v x => rw [hz] at g3; exact g3.1
        | ow x => exact absurd (by rw [List.getElem?_eq_getElem hl, hz]) (hno x)
        | sf a x => exact absurd (by rw [List.getElem?_eq_getElem hl, hz]) (hno2 a x)
      · rw [List.getElem?_set_ne (Ne.symm hj)] at h1 h3
        exact r.at_ j e o s h1 h2 h3
theorem wipeE_un : ∀ {vs : List Nat} {env e1 : List Sv}, wipeE vs env = some e1 → e1.length = env.length ∧ ∀ i ∈ vs, i < env.length → e1[i]? = some .un
  | [], _, _, h => by cases h; exact ⟨rfl, fun i hi => nomatch hi⟩
  | v :: vs, env, e1, h => by
    unfold wipeE at h
    cases e2 : wipeE vs env with
    | none => rw [e2] at h; cases h
    | some e3 =>
      rw [e2] at h
      obtain ⟨l, ih⟩ := wipeE_un e2
      have he : e1 = e3.set v .un := by
        dsimp only at h
        split at h
        · cases h
        · cases h
        · exact (Option.some.inj h).symm
      subst he
      refine ⟨by simp [l], fun i hi hl => ?_⟩
      by_cases hv : i = v
      · subst hv
        rw [List.getElem?_set_self (by rw [l]; exact hl)]
      · rw [List.getElem?_set_ne (Ne.symm hv)]
        exact ih i ((List.mem_cons.mp hi).resolve_left hv) hl
def compL (f : TF) (tt : TM) (te : EM) (env : List Sv) : List Vl → Sto → Res (List Vl)
  | [], S => .ok [] S
  | x :: xs, S => match f x env with
    | none => .bad
    | some env1 => (tt env1 S).nox.bind fun k S1 => if k then (te env1 S1).nox.bind fun y S2 => (compL f tt te env xs S2).bind fun ys S3 => .ok (y :: ys) S3 else compL f tt te env xs S1
def compM (im : IM) (vs : List Nat) (f : TF) (tt : TM) (te : EM) : EM := fun env S => (im env S).bind fun xs S1 => match wipeE vs env with
  | none => .bad
  | some env1 => (compL f tt te env1 xs S1).bind fun ys S2 => .ok (.lst ys) S2
def yesT : TM := fun _ S => .ok true S
/-- W and one more -/
theorem wo_wa {W : Addr → Prop} {ω : List (Option Addr)} {D : Addr} (a : Addr) : Wa (Wo W ω) D a ↔ Wo (Wa W D) ω a := by
  unfold Wa Wo
  constructor
  · rintro ((h | h) | h)
    · exact .inl (.inl h)
    · exact .inr h
    · exact .inl (.inr h)
  · rintro ((h | h) | h)
    · exact .inl (.inl h)
    · exact .inr h
    · exact .inl (.inr h)
/-- a banned object of nobody's changed -/
theorem Sim.updW {K : PySem.W.Frag} {cl : Cl} {W : Addr → Prop} {μ : List Addr} {S : Sto} {H : Hp} (s : Sim K cl W μ S H) {D : Addr} {o : HO} (hD : W D) (ho : ∀ vs, o ≠ .tup vs := by first | exact Ho.nt (by assumption) | (intro _ z; cases z)) : Sim K cl W μ S (L2.upd H D o) ∧ Kp (Bn W μ) (Bn W μ) μ μ H (L2.upd H D o) := by
  have kp : Kp (Bn W μ) (Bn W μ) μ μ H (L2.upd H D o) := ⟨fun b u q n => ⟨by rw [upd_ne (show b ≠ D from fun z => n (.inr (by rw [z]; exact hD)))]; exact q, n⟩, fun _ _ q => q⟩
  refine ⟨⟨s.len, s.nd, s.dis, fun b w => ?_, fun n x e => ?_⟩, kp⟩
  · exact (s.trn b w).upd ho
  · obtain ⟨a, e1, e2⟩ := s.obs n x e
    exact ⟨a, e1, e2.mono kp fun u q => by rw [upd_ne (show a ≠ D from fun z => s.dis a (List.mem_of_getElem? e1) (by rw [z]; exact hD))]; exact q⟩
section
variable {X : Cx} {cl : Cl} {E : XK} {e : Expr} {pos : Pos} {g : TG} {f : TF} {ix vs : List Nat} {im : IM} {tt : TM} {te : EM}
theorem comp_t (hg : TgOk X.K cl g f ix) (hx : ∀ i ∈ ix, i ∈ vs) {gtt : TT} {gte : TE} (ht : ∀ σ H Q, tDT X.K cl E0 tt σ H Q → gtt σ H Q) (he : ∀ σ H Q, tD X.K cl E0 te σ H Q → gte σ H Q) {wi : TI} (hw : ∀ σ H R, tI false X.K cl E im σ H R → wi σ H R)
    {σ : St} {H : Hp} {Q : VK} (h : tN X.K cl E (compM im vs f tt te) σ H Q) : tLc wi g gtt gte vs σ H Q := by
  obtain ⟨W, ω, μ, S, env, rl, q⟩ := h
  refine hw _ _ _ ⟨W, ω, μ, S, env, rl, q.bind.mono fun xs S1 μ1 H1 _ s1 e1 q1 J io D hD => ?_⟩
  cases hwp : wipeE vs env with
  | none => rw [hwp] at q1; exact q1.elim
  | some env1 =>
    rw [hwp] at q1
    dsimp only at q1
    have q2 := q1.bind
    have Dm : D ∉ μ1 := fun z => s1.tracked (.inl z) hD
    have cvt : ∀ {μ' : List Addr} {S' : Sto} {H' : Hp}, Sim X.K cl (Wo (Wa W D) ω) μ' S' H' → Sim X.K cl (Wa (Wo W ω) D) μ' S' H' := fun s => s.weak fun a z => (wo_wa a).mp z
    -- the block's state
    let Pv : Nat → Hp → Prop := fun i H' => ∃ μ' S' acc accV, Sim X.K cl (Wo (Wa W D) ω) μ' S' H' ∧ Ext μ1 H1 μ' H' ∧ H' D = some (.lst accV) ∧ Reps X.K cl (Bn (Wo (Wa W D) ω) μ') μ' H' acc accV ∧ acc.length ≤ i ∧
      SatG X.K cl (Wo W ω) μ1 H1 (compL f tt te env1 (xs.drop i) S') (fun ys S2 μ2 H2 => ∀ a, H a = none → Sim X.K cl (Wa (Wo W ω) a) μ2 S2 H2 → At X.K cl (Bn (Wa (Wo W ω) a) μ2) μ2 H2 a (.lst (acc ++ ys)) → Q (.ref a) H2) E
    have rl1 := rl.ext e1 s1
    have mkRl : ∀ {μ' : List Addr} {S' : Sto} {H' : Hp}, Sim X.K cl (Wo (Wa W D) ω) μ' S' H' → Ext μ1 H1 μ' H' → Rl X.K cl (Wa W D) ω μ' S' env1 (wipe σ vs) H' := fun s' e' => by
      have r0 := rl1.wipe hwp
      have kp : Kp (Bn (Wo W ω) μ1) (Bn (Wo (Wa W D) ω) _) μ1 _ H1 _ := ⟨fun a o h n => ⟨e'.keep a o h fun z => n (.inl z), fun z => by
        rcases z with z | (z | z) | z
        · rcases e'.new a z with z | z
          · exact n (.inl z)
          · rw [h] at z; cases z
        · exact n (.inr (.inl z))
        · rw [z, hD] at h; cases h
        · exact n (.inr (.inr z))⟩, e'.pre⟩
      exact ⟨s', r0.l1, r0.l2, fun i x o t h1 h2 h3 => (r0.at_ i x o t h1 h2 h3).mono kp fun a u z q => e'.keep a u q fun hm => r0.sim.dis a hm (.inr (by rw [← z]; exact List.mem_of_getElem? h2)), r0.od, fun a z w => w.elim (r0.ow a z) fun w => s1.trk a (.inr z) (by rw [w]; exact hD)⟩
    have dn : ∀ a : Addr, a = D → H a = none := fun a z => by rw [z]; exact fresh_back e1 hD
    refine ⟨fun i m H' => m = xs.length - i ∧ i ≤ xs.length ∧ Pv i H', ⟨xs.length, by simp, Nat.zero_le _, μ1, S1, [], [], ?_, Ext.fresh hD, upd_same, .nil, Nat.le_refl _, ?_⟩, ?_⟩
    · exact (s1.freshBan hD Dm).weak fun a z => (wo_wa a).mpr z
    · show SatG X.K cl (Wo W ω) μ1 H1 (compL f tt te env1 xs S1) _ E
      refine q2.mono fun ys S2 μ2 H2 _ s2 e2 q3 a ha sb at_ => ?_
      exact q3 μ2 H2 s2 Ext.refl a ha sb (by simpa using at_)
    · rintro i m H' ⟨rfl, hi, μ', S', acc, accV, s', e', hDv, racc, hacc, q'⟩
      have std : ∀ a o, H1 a = some o → ¬ Nn false ω μ1 a → H' a = some o := fun a o h n => e'.keep a o h fun z => n (.inl z)
      by_cases hlt : i < xs.length
      · refine .inr ⟨io.go i H' hlt std, Pv (i + 1), fun H2 p => ⟨xs.length - (i + 1), by omega, rfl, hlt, p⟩, fun v H2 y => ?_⟩
        have r1 := mkRl s' e'
        have kp : Kp (Bn (Wo W ω) μ1) (Bn (Wo (Wa W D) ω) μ') μ1 μ' H1 H' := ⟨fun a o h n => ⟨e'.keep a o h fun z => n (.inl z), fun z => by
          rcases z with z | (z | z) | z
          · rcases e'.new a z with z | z
            · exact n (.inl z)
            · rw [h] at z; cases z
          · exact n (.inr (.inl z))
          · rw [z, hD] at h; cases h
          · exact n (.inr (.inr z))⟩, e'.pre⟩
        obtain ⟨x, hxx, rv, hH⟩ := io.yld i H' v H2 (Bn (Wo (Wa W D) ω) μ') μ' hlt std kp (fun a z => s'.nts z) y
        have ed : xs.drop i = x :: xs.drop (i + 1) := by
          rw [List.drop_eq_getElem_cons hlt]
          congr 1
          exact Option.some.inj ((List.getElem?_eq_getElem hlt).symm.trans hxx)
        rw [ed] at q'
        have x2 : Ext μ' H' μ' H2 ∧ Rl X.K cl (Wa W D) ω μ' S' env1 (wipe σ vs) H2 := by
          rcases hH with z | ⟨T, o, hT, z⟩
          · rw [z]; exact ⟨Ext.refl, r1⟩
          · rw [z]; exact ⟨Ext.fresh hT, r1.fresh hT⟩
        unfold compL at q'
        cases ef : f x env1 with
        | none => rw [ef] at q'; exact q'.elim
        | some env2 =>
          rw [ef] at q'
          dsimp only at q'
          refine hg (Wa W D) ω μ' S' env1 env2 (wipe σ vs) H2 x v _ x2.2 rv ef fun ω2 σ2 t => ⟨(t.wp vs hx).trans (wipe_wipe σ vs), ht _ _ _ ⟨Wa W D, ω2, μ', S', env2, t.rl, ?_⟩⟩
          have eω : ω2 = ω := t.same fun j hj a z => by
            have hl2 := (List.getElem?_eq_some_iff.mp z).1
            have hl3 : j < env.length := by rw [rl.l1, ← rl.l2]; exact hl2
            obtain ⟨o', s2, g1, g2, g3⟩ := r1.slot ((wipeE_un hwp).2 j (hx j hj) hl3)
            rw [z] at g1
            cases g1
            cases g3
          have rt := t.rl
          rw [eω] at rt
          rw [eω]
          have e2 : Ext μ1 H1 μ' H2 := e'.trans x2.1
          have hD2 : H2 D = some (.lst accV) := x2.1.keep D _ hDv fun z => s'.dis D z (.inl (.inr rfl))
          have racc2 := racc.mono x2.1.kp
          revert q'
          generalize ett : tt env2 S' = r
          intro q'
          cases r with
          | bad => exact q'.elim
          | exc c ns ys S2 => exact q'.elim
          | ok k S2 =>
            intro μ3 H3 s3 e3
            have hD3 : H3 D = some (.lst accV) := e3.keep D _ hD2 fun z => rt.sim.dis D z (.inl (.inr rfl))
            have racc3 := racc2.mono e3.kp
            cases k with
            | false => exact ⟨μ3, S2, acc, accV, s3, e2.trans e3, hD3, racc3, Nat.le_succ_of_le hacc, q'⟩
            | true =>
              refine iteT (he _ _ _ ⟨Wa W D, ω, μ3, S2, env2, rt.ext e3 s3, ?_⟩)
              have q4 : SatG X.K cl (Wo W ω) μ1 H1 ((te env2 S2).nox.bind fun y S2 => (compL f tt te env1 (xs.drop (i + 1)) S2).bind fun ys S3 => .ok (y :: ys) S3) _ E := q'
              revert q4
              generalize te env2 S2 = r2
              intro q4
              cases r2 with
              | bad => exact q4.elim
              | exc c ns ys S3 => exact q4.elim
              | ok y S3 =>
                intro μ4 H4 s4 e4 v4 r4
                have hD4 : H4 D = some (.lst accV) := e4.keep D _ hD3 fun z => s3.dis D z (.inl (.inr rfl))
                have racc4 := racc3.mono e4.kp
                have hlen : accV.length < sizeLine := by
                  have z1 := racc4.length
                  have z2 := io.len
                  omega
                obtain ⟨s5, kp5⟩ := s4.updW (D := D) (o := .lst (accV ++ [v4])) (.inl (.inr rfl))
                have e5 : Ext μ1 H1 μ4 (upd H4 D (.lst (accV ++ [v4]))) := by
                  have e14 := (e2.trans e3).trans e4
                  refine ⟨fun b o h n => ?_, fun b h => ?_, e14.pre, e14.new⟩
                  · rw [upd_ne (ne_of_none h hD)]; exact e14.keep b o h n
                  · unfold upd
                    split
                    · simp
                    · exact e14.dom b h
                refine ⟨accV, hD4, hlen, μ4, S3, acc ++ [y], accV ++ [v4], s5, e5, upd_same, (racc4.snoc r4).mono kp5, by simp; omega, ?_⟩
                have q5 : SatG X.K cl (Wo W ω) μ1 H1 ((compL f tt te env1 (xs.drop (i + 1)) S3).bind fun ys S3 => .ok (y :: ys) S3) _ E := q4
                refine q5.bind.mono fun ys S6 μ6 H6 _ s6 e6 q6 a ha sb at_ => ?_
                exact q6 μ6 H6 s6 Ext.refl a ha sb (by simpa using at_)
      · have ei : i = xs.length := by omega
        subst ei
        rw [List.drop_length] at q'
        refine .inl ⟨io.stop H' std, ?_⟩
        have sb := cvt s'
        have q3 := q' μ' H' (s'.weak fun a z => z.elim (fun z => .inl (.inl z)) .inr) e' D (fresh_back e1 hD) sb
        refine q3 ?_
        rw [List.append_nil]
        exact .lst hDv (racc.mono (Kp.weak fun a z => (wo_wa a).mp z))
end
end Dm

set_option Elab.async false
set_option linter.all false
set_option maxRecDepth 100000
set_option autoImplicit false
set_option maxHeartbeats 1000000
/-! Dm8: comprehensions as expressions; what is walked; while. -/
namespace Dm
open PySem PySem.Spec L2
section
variable {X : Cx} {cl : Cl} {E : XK} {e : Expr} {pos : Pos} {g : TG} {f : TF} {ix : List Nat} {im : IM} {tt : TM} {te m m1 m2 : EM}
theorem t_dn {K : PySem.W.Frag} {σ : St} {H : Hp} {Q : VK} (h : tD K cl E m σ H Q) : tN K cl E m σ H Q := by
  obtain ⟨W, ω, μ, S, env, r, q⟩ := h
  exact ⟨W, ω, μ, S, env, r, q.mono fun x S' μ' H' _ s _ k a ha sb at_ => k (.ref a) ((at_.mono (Kp.weak fun _ z => .inl z) fun _ q => q).rep fun z => z.elim (fun z => sb.dis a z (.inr rfl)) fun z => r.sim.trk a z ha)⟩
theorem t_ld {K : PySem.W.Frag} {σ : St} {H : Hp} {Q : VK} (h : tL K cl E m σ H Q) : tD K cl E m σ H Q := by
  obtain ⟨W, ω, μ, S, env, r, q⟩ := h
  exact ⟨W, ω, μ, S, env, r, q.mono fun x S' μ' H' _ _ _ k v rv => k v (.inl rv)⟩
theorem yes_t {K : PySem.W.Frag} {σ : St} {H : Hp} {Q : Bool → Hp → Prop} (h : tDT K cl E yesT σ H Q) : tYes σ H Q := by
  obtain ⟨W, ω, μ, S, env, r, q⟩ := h
  exact q μ H r.sim Ext.refl
theorem dn_lc {elt tg iter : Expr} {ifs : List Expr} {scope : Scope} {own : List (Str × Nat)} {gtt : TT} (hc : X.calm = true) (hN : X.N.Nodup) (hi : PI X tg iter (tI false X.K cl E im)) (ok : BlkOk X.N X.env.scope scope own)
    (hg : ∀ (s : Shared) (H : Hp) (C : Addr) (l : List (Str × Addr)) (fp : List Addr), PG (X.blk s H scope (compEnvC scope l C X.env) fp) tg g) (ho : TgOk X.K cl g f ix)
    (ht : ∀ (s : Shared) (H : Hp) (C : Addr) (l : List (Str × Addr)) (fp : List Addr), PTs (X.blk s H scope (compEnvC scope l C X.env) fp) ifs gtt) (htt : ∀ σ H Q, tDT X.K cl E0 tt σ H Q → gtt σ H Q)
    (he : ∀ (s : Shared) (H : Hp) (C : Addr) (l : List (Str × Addr)) (fp : List Addr), PE (X.blk s H scope (compEnvC scope l C X.env) fp) elt (tD X.K cl E0 te)) (hx : ∀ i ∈ ix, i ∈ own.map (·.2) := by decide) (hs : ∀ x, foldedSetIterable iter X.env x = pure x := by intro _; rfl) :
    PE X (.ListComp elt [⟨tg, iter, ifs, 0⟩] scope pos) (tN X.K cl E (compM im (own.map (·.2)) f tt te)) :=
  (pe_lc hc hN hi ok hg ht he hs).imp fun _ _ _ h => comp_t ho hx htt (fun _ _ _ z => z) (fun _ _ _ z => z) h
/-- y = [..] on one line -/
theorem lc_set {i : Nat} {y : Str} {py spos : Pos} {elt tg iter : Expr} {ifs : List Expr} {scope : Scope} {own : List (Str × Nat)} {gtt : TT} (hc : X.calm = true) (hN : X.N.Nodup) (hy : X.N[i]? = some y) (hyl : X.env.scope.names.lookup y = some .local)
    (hsw : swapsWith (.ListComp elt [⟨tg, iter, ifs, 0⟩] scope pos) (some (.Name y py)) spos.line X.env = pure true) (hi : PI X tg iter (tI false X.K cl E im)) (ok : BlkOk X.N X.env.scope scope own)
    (hg : ∀ (s : Shared) (H : Hp) (C : Addr) (l : List (Str × Addr)) (fp : List Addr), PG (X.blk s H scope (compEnvC scope l C X.env) fp) tg g) (ho : TgOk X.K cl g f ix)
    (ht : ∀ (s : Shared) (H : Hp) (C : Addr) (l : List (Str × Addr)) (fp : List Addr), PTs (X.blk s H scope (compEnvC scope l C X.env) fp) ifs gtt) (htt : ∀ σ H Q, tDT X.K cl E0 tt σ H Q → gtt σ H Q)
    (he : ∀ (s : Shared) (H : Hp) (C : Addr) (l : List (Str × Addr)) (fp : List Addr), PE (X.blk s H scope (compEnvC scope l C X.env) fp) elt (tD X.K cl E0 te)) (hx : ∀ i ∈ ix, i ∈ own.map (·.2) := by decide) (hs : ∀ x, foldedSetIterable iter X.env x = pure x := by intro _; rfl) :
    PS X (.Assign [.Name y py] (.ListComp elt [⟨tg, iter, ifs, 0⟩] scope pos) spos) (tAsg (tN X.K cl E (compM im (own.map (·.2)) f tt te)) (gName i)) :=
  (ps_setLc hc hN hy hyl hsw hi ok hg ht he hs).imp fun D σ H h => comp_t ho hx htt (fun _ _ _ z => z) (fun _ _ _ z => z) h
theorem satOk {α : Type} {K : PySem.W.Frag} {W : Addr → Prop} {μ : List Addr} {H : Hp} {r : Res α} {a : α} {S : Sto} {P : α → Sto → List Addr → Hp → Prop} (he : r = .ok a S) (h : ∀ μ' H', Sim K cl W μ' S H' → Ext μ H μ' H' → P a S μ' H') : SatG K cl W μ H r P E := by
  rw [he]
  exact h
/-! ### a list or a tuple -/
def seqOf : Vl → Option (List Vl)
  | .lst xs => some xs
  | .tup xs => some xs
  | .ftp xs => some xs
  | _ => none
def seqI (m : EM) : IM := fun env S => (m env S).bind fun x S1 => match seqOf x with
  | some xs => .ok xs S1
  | none => .bad
theorem seq_rep {K : PySem.W.Frag} {W : Addr → Prop} {ω : List (Option Addr)} {μ : List Addr} {S : Sto} {H : Hp} {x : Vl} {v : V} {xs : List Vl} (s : Sim K cl (Wo W ω) μ S H) (r : RepL K cl W ω μ H x v) (h : seqOf x = some xs) :
    ∃ (k : Bool) (a : Addr) (vs : List V), v = .ref a ∧ Rd H a (if k then .tup vs else .lst vs) ∧ a ∉ μ ∧ Reps K cl (Bn (Wo W ω) μ) μ H xs vs := by
  rcases r with r | ⟨a, e1, e2, r⟩
  · cases r with
    | tup h1 h2 h3 => cases h; exact ⟨true, _, _, rfl, .inl h1, fun z => h2 (.inl z), h3⟩
    | ftp h1 h0 h2 h3 => cases h; exact ⟨true, _, _, rfl, .inr ⟨_, h1⟩, fun z => h2 (.inl z), h3⟩
    | lst h1 h2 h3 => cases h; exact ⟨false, _, _, rfl, .inl h1, fun z => h2 (.inl z), h3⟩
    | _ => cases h
  · cases r with
    | lst h1 h2 => cases h; exact ⟨false, a, _, e1, .inl h1, fun z => s.dis a z (.inr e2), h2⟩
    | _ => cases h
theorem seq_repS {K : PySem.W.Frag} {B : Addr → Prop} {μ : List Addr} {H : Hp} {x : Vl} {v : V} {xs : List Vl} (r : Rep K cl B μ H x v) (h : seqOf x = some xs) :
    ∃ (k : Bool) (a : Addr) (vs : List V), v = .ref a ∧ Rd H a (if k then .tup vs else .lst vs) ∧ ¬ B a ∧ Reps K cl B μ H xs vs := by
  cases r with
  | tup h1 h2 h3 => cases h; exact ⟨true, _, _, rfl, .inl h1, h2, h3⟩
  | ftp h1 h0 h2 h3 => cases h; exact ⟨true, _, _, rfl, .inr ⟨_, h1⟩, h2, h3⟩
  | lst h1 h2 h3 => cases h; exact ⟨false, _, _, rfl, .inl h1, h2, h3⟩
  | _ => cases h
theorem sqk_of {K : PySem.W.Frag} {H : Hp} {a : Addr} {vs : List V} {k : Bool} (h : Rd H a (if k then .tup vs else .lst vs)) : SqK k K H a vs := by
  cases k with
  | false => exact .inl h
  | true => exact .inl h
theorem rd_kk {H H' : Hp} {N : Addr → Prop} {a : Addr} {u : HO} (kk : ∀ a o, H a = some o → ¬ N a → H' a = some o) (h : Rd H a u) (n : ¬ N a) : Rd H' a u := h.imp (fun h => kk a _ h n) fun ⟨o, h⟩ => ⟨o, kk a _ h n⟩
theorem len_of {H : Hp} {a : Addr} {vs : List V} {k : Bool} (l : LenOk H) (h : Rd H a (if k then .tup vs else .lst vs)) : vs.length ≤ sizeLine := by
  cases k with
  | false => exact l a vs (.inl h)
  | true => exact l a vs (.inr h)
theorem it_list {K : PySem.W.Frag} {N B : Addr → Prop} {μ : List Addr} {H : Hp} {a : Addr} {vs : List V} {xs : List Vl} (l : LenOk H) (h : H a = some (.lst vs)) (n : ¬ N a) (r : Reps K cl B μ H xs vs) : ItOk K cl (Itl K a) N B μ H xs := by
  have hl := r.length
  refine ⟨by rw [hl]; exact l a vs (.inl (.inl h)), fun i H' hi k => ⟨vs, vs[i]'(by omega), SqL.of (k a _ h n), by simp [show i < vs.length by omega]⟩, fun H' k => ⟨vs, SqL.of (k a _ h n), by omega⟩, fun i H' v H2 B' μ' hi k kp _ y => ?_⟩
  obtain ⟨e1, e2⟩ := y
  have hv := e2 vs (SqL.of (k a _ h n))
  obtain ⟨x, hx, rx⟩ := r.get' hv
  exact ⟨x, hx, by rw [e1]; exact rx.mono kp, .inl e1⟩
theorem it_tup {K : PySem.W.Frag} {N B : Addr → Prop} {μ : List Addr} {H : Hp} {a : Addr} {vs : List V} {xs : List Vl} (l : LenOk H) (h : Rd H a (.tup vs)) (n : ¬ N a) (r : Reps K cl B μ H xs vs) : ItOk K cl (Itt K a) N B μ H xs := by
  have hl := r.length
  refine ⟨by rw [hl]; exact l a vs (.inr h), fun i H' hi k => ⟨vs, vs[i]'(by omega), .inl (rd_kk k h n), by simp [show i < vs.length by omega]⟩, fun H' k => ⟨vs, .inl (rd_kk k h n), by omega⟩, fun i H' v H2 B' μ' hi k kp _ y => ?_⟩
  obtain ⟨e1, e2⟩ := y
  have hv := e2 vs (.inl (rd_kk k h n))
  obtain ⟨x, hx, rx⟩ := r.get' hv
  exact ⟨x, hx, by rw [e1]; exact rx.mono kp, .inl e1⟩
theorem di_seqL {tg : Expr} (h : PE X e (tL X.K cl E m)) : PI X tg e (tI false X.K cl E (seqI m)) :=
  (pi_or (pi_len (pi_list h)) (pi_len (pi_tup h))).imp fun σ H R ⟨W, ω, μ, S, env, rl, q⟩ => by
    have q2 := q.bind
    revert q2
    generalize he : m env S = r
    intro q2
    cases r with
    | bad => exact q2.elim
    | exc c ns xs S' => exact .inl ⟨W, ω, μ, S, env, rl, by rw [he]; exact q2⟩
    | ok x S1 =>
      cases hs : seqOf x with
      | none =>
        refine .inl ⟨W, ω, μ, S, env, rl, satOk he fun μ1 H1 s1 e1 v rv => ?_⟩
        have q3 := q2 μ1 H1 s1 e1
        dsimp only at q3
        rw [hs] at q3
        exact q3.elim
      | some xs =>
        have main : ∀ μ1 H1, Sim X.K cl (Wo W ω) μ1 S1 H1 → Ext μ H μ1 H1 → ∀ J, ItOk X.K cl J (Nn false ω μ1) (Bn (Wo W ω) μ1) μ1 H1 xs → R J H1 := fun μ1 H1 s1 e1 J io => by
          have q3 := q2 μ1 H1 s1 e1
          dsimp only at q3
          rw [hs] at q3
          exact q3 μ1 H1 s1 Ext.refl J io
        cases x with
        | lst ys =>
          cases hs
          refine .inl ⟨W, ω, μ, S, env, rl, satOk he fun μ1 H1 s1 e1 v rv => ?_⟩
          have h1' : ∃ a vs, v = .ref a ∧ H1 a = some (.lst vs) ∧ a ∉ μ1 ∧ Reps X.K cl (Bn (Wo W ω) μ1) μ1 H1 xs vs := by
            rcases rv with rv | ⟨a', e3, e4, rv⟩
            · cases rv with
              | lst g1 g0 g2 => exact ⟨_, _, rfl, g1, fun z => g0 (.inl z), g2⟩
            · cases e3
              cases rv with
              | lst g1 g2 => exact ⟨_, _, rfl, g1, fun z => s1.dis _ z (.inr e4), g2⟩
          obtain ⟨a, vs, rfl, h1', h2, h3⟩ := h1'
          exact ⟨a, rfl, ⟨vs, SqL.of h1'⟩, fun l => main μ1 H1 s1 e1 _ (it_list l h1' (fun z => z.elim h2 fun z => nomatch z.1) h3)⟩
        | tup ys =>
          cases hs
          refine .inr ⟨W, ω, μ, S, env, rl, satOk he fun μ1 H1 s1 e1 v rv => ?_⟩
          rcases rv with rv | ⟨a', e3, _, rv⟩
          · cases rv with
            | tup g1 g2 g3 => exact ⟨_, rfl, ⟨_, SqT.of g1⟩, fun l => main μ1 H1 s1 e1 _ (it_tup l (.inl g1) (fun z => z.elim (fun z => g2 (.inl z)) fun z => nomatch z.1) g3)⟩
          · cases rv
        | ftp ys =>
          cases hs
          refine .inr ⟨W, ω, μ, S, env, rl, satOk he fun μ1 H1 s1 e1 v rv => ?_⟩
          rcases rv with rv | ⟨a', e3, _, rv⟩
          · cases rv with
            | ftp g1 g0 g2 g3 => exact ⟨_, rfl, ⟨_, .inl (.inr ⟨_, g1⟩)⟩, fun l => main μ1 H1 s1 e1 _ (it_tup l (.inr ⟨_, g1⟩) (fun z => z.elim (fun z => g2 (.inl z)) fun z => nomatch z.1) g3)⟩
          · cases rv
        | _ => cases hs
theorem di_seq {tg : Expr} (h : PE X e (tD X.K cl E m)) : PI X tg e (tI true X.K cl E (seqI m)) :=
  (pi_or (pi_len (pi_list h)) (pi_len (pi_tup h))).imp fun σ H R ⟨W, ω, μ, S, env, rl, q⟩ => by
    have q2 := q.bind
    revert q2
    generalize he : m env S = r
    intro q2
    cases r with
    | bad => exact q2.elim
    | exc c ns xs S' => exact .inl ⟨W, ω, μ, S, env, rl, by rw [he]; exact q2⟩
    | ok x S1 =>
      cases hs : seqOf x with
      | none =>
        refine .inl ⟨W, ω, μ, S, env, rl, satOk he fun μ1 H1 s1 e1 v rv => ?_⟩
        have q3 := q2 μ1 H1 s1 e1
        dsimp only at q3
        rw [hs] at q3
        exact q3.elim
      | some xs =>
        have main : ∀ μ1 H1, Sim X.K cl (Wo W ω) μ1 S1 H1 → Ext μ H μ1 H1 → ∀ J, ItOk X.K cl J (Nn true ω μ1) (Bn (Wo W ω) μ1) μ1 H1 xs → R J H1 := fun μ1 H1 s1 e1 J io => by
          have q3 := q2 μ1 H1 s1 e1
          dsimp only at q3
          rw [hs] at q3
          exact q3 μ1 H1 s1 Ext.refl J io
        have nb : ∀ {μ1 : List Addr} {a : Addr}, ¬ Bn (Wo W ω) μ1 a → ¬ Nn true ω μ1 a := fun n z => z.elim (fun z => n (.inl z)) fun z => n (.inr (.inr z.2))
        cases x with
        | lst ys =>
          cases hs
          refine .inl ⟨W, ω, μ, S, env, rl, satOk he fun μ1 H1 s1 e1 v rv => ?_⟩
          cases rv with
          | lst g1 g2 g3 => exact ⟨_, rfl, ⟨_, SqL.of g1⟩, fun l => main μ1 H1 s1 e1 _ (it_list l g1 (nb g2) g3)⟩
        | tup ys =>
          cases hs
          refine .inr ⟨W, ω, μ, S, env, rl, satOk he fun μ1 H1 s1 e1 v rv => ?_⟩
          cases rv with
          | tup g1 g2 g3 => exact ⟨_, rfl, ⟨_, SqT.of g1⟩, fun l => main μ1 H1 s1 e1 _ (it_tup l (.inl g1) (nb g2) g3)⟩
        | ftp ys =>
          cases hs
          refine .inr ⟨W, ω, μ, S, env, rl, satOk he fun μ1 H1 s1 e1 v rv => ?_⟩
          cases rv with
          | ftp g1 g0 g2 g3 => exact ⟨_, rfl, ⟨_, .inl (.inr ⟨_, g1⟩)⟩, fun l => main μ1 H1 s1 e1 _ (it_tup l (.inr ⟨_, g1⟩) (nb g2) g3)⟩
        | _ => cases hs
/-! ### ranges -/
def rgI (lo : Int) (n : Nat) : List Vl := (List.range n).map fun (k : Nat) => Vl.int (lo + k)
theorem rgI_length (lo : Int) (n : Nat) : (rgI lo n).length = n := by simp [rgI]
theorem rgI_get {lo : Int} {n i : Nat} (h : i < n) : (rgI lo n)[i]? = some (.int (lo + i)) := by simp [rgI, h]
/-- range(..), by its arguments -/
def rngI (a : AM) : IM := fun env S => (a env S).bind fun xs S1 => match xs with
  | [.int j] => if -(2 ^ 62) ≤ j ∧ j ≤ 16777216 then .ok (rgI 0 j.toNat) S1 else .bad
  | [.int i, .int j] => if (-(2 ^ 62) ≤ i ∧ i < 2 ^ 62 ∧ -(2 ^ 62) ≤ j ∧ j < 2 ^ 62) ∧ j - i ≤ 16777216 then .ok (rgI i (j - i).toNat) S1 else .bad
  | _ => .bad
theorem it_range {K : PySem.W.Frag} {N B : Addr → Prop} {μ : List Addr} {H : Hp} {lo : Int} {n : Nat} (h : n ≤ 16777216) : ItOk K cl (Itr lo n) N B μ H (rgI lo n) := by
  refine ⟨by rw [rgI_length, sizeLine_eq]; exact h, fun i H' hi k => by rw [rgI_length] at hi; exact hi, fun H' k => by rw [rgI_length]; exact Nat.le_refl _, fun i H' v H2 B' μ' hi k kp _ y => ?_⟩
  obtain ⟨e1, e2⟩ := y
  rw [rgI_length] at hi
  exact ⟨_, rgI_get hi, by rw [e2]; exact .int _, .inl e1⟩
variable {mA : AM}
theorem di_rng1 {st : Bool} {tg a : Expr} {p : Pos} (hg : Gl X "range") (hm : X.mg "range" = none) (ha : PA X [a] (tDA X.K cl E mA)) (hn : LenA mA 1) (hs : starEach [a] X.env = [(false, eval a X.env)] := by rfl) : PI X tg (.Call (.Name "range" p) [a] [] pos) (tI st X.K cl E (rngI mA)) :=
  (pi_range1 hg hm ha hs).imp fun σ H R ⟨W, ω, μ, S, env, rl, q⟩ => ⟨W, ω, μ, S, env, rl, q.bind.mono fun xs S1 μ1 H1 ee s1 e1 q1 vs rs => by
    have hl := hn _ _ _ _ ee
    match xs, hl, rs, q1 with
    | [x], _, .cons r .nil, q1 =>
      cases x with
      | int j =>
        dsimp only at q1
        split at q1
        · rename_i hb
          cases r
          exact ⟨j, rfl, hb.1, by have := hb.2; omega, q1 μ1 H1 s1 Ext.refl _ (it_range (by have := hb.2; omega))⟩
        · exact q1.elim
      | _ => exact q1.elim⟩
theorem di_rng2 {st : Bool} {tg a b : Expr} {p : Pos} (hg : Gl X "range") (hm : X.mg "range" = none) (ha : PA X [a, b] (tDA X.K cl E mA)) (hn : LenA mA 2) (hs : starEach [a, b] X.env = [(false, eval a X.env), (false, eval b X.env)] := by rfl) (hs2 : starEach [b] X.env = [(false, eval b X.env)] := by rfl) : PI X tg (.Call (.Name "range" p) [a, b] [] pos) (tI st X.K cl E (rngI mA)) :=
  (pi_range2 hg hm ha hs hs2).imp fun σ H R ⟨W, ω, μ, S, env, rl, q⟩ => ⟨W, ω, μ, S, env, rl, q.bind.mono fun xs S1 μ1 H1 ee s1 e1 q1 vs rs => by
    have hl := hn _ _ _ _ ee
    match xs, hl, rs, q1 with
    | [x, y], _, .cons r (.cons r2 .nil), q1 =>
      cases x with
      | int i =>
        cases y with
        | int j =>
          dsimp only at q1
          split at q1
          · rename_i hb
            cases r
            cases r2
            exact ⟨i, j, rfl, hb.1, q1 μ1 H1 s1 Ext.refl _ (it_range (by have := hb.2; omega))⟩
          · exact q1.elim
        | _ => exact q1.elim
      | _ => exact q1.elim⟩
/-! ### enumerate, zip -/
def enL (xs : List Vl) : List Vl := (List.range xs.length).zipWith (fun (i : Nat) x => .tup [.int i, x]) xs
def zpL (xs ys : List Vl) : List Vl := xs.zipWith (fun x y => .tup [x, y]) ys
def enI (a : AM) : IM := fun env S => (a env S).bind fun xs S1 => match xs with
  | [x] => (match seqOf x with | some ys => .ok (enL ys) S1 | none => .bad)
  | _ => .bad
def zpI (a : AM) : IM := fun env S => (a env S).bind fun xs S1 => match xs with
  | [x, y] => (match seqOf x, seqOf y with | some ys, some zs => .ok (zpL ys zs) S1 | _, _ => .bad)
  | _ => .bad
theorem enL_length (xs : List Vl) : (enL xs).length = xs.length := by simp [enL]
theorem enL_get {xs : List Vl} {i : Nat} {x : Vl} (h : xs[i]? = some x) : (enL xs)[i]? = some (.tup [.int (i : Nat), x]) := by
  obtain ⟨hl, he⟩ := List.getElem?_eq_some_iff.mp h
  simp [enL, List.getElem?_zipWith, hl, he]
theorem zpL_length (xs ys : List Vl) : (zpL xs ys).length = min xs.length ys.length := by simp [zpL]
theorem zpL_get {xs ys : List Vl} {i : Nat} {x y : Vl} (h : xs[i]? = some x) (h2 : ys[i]? = some y) : (zpL xs ys)[i]? = some (.tup [x, y]) := by simp [zpL, List.getElem?_zipWith, h, h2]
theorem kp_new {B' : Addr → Prop} {μ' : List Addr} {H' : Hp} {T : Addr} {o : HO} (hT : H' T = none) : Kp B' B' μ' μ' H' (upd H' T o) := ⟨fun b u q n => ⟨by rw [upd_ne (ne_of_none q hT)]; exact q, n⟩, fun _ _ q => q⟩
theorem it_en {K : PySem.W.Frag} {N B : Addr → Prop} {μ : List Addr} {H : Hp} {a : Addr} {vs : List V} {xs : List Vl} {k : Bool} (l : LenOk H) (h : Rd H a (if k then .tup vs else .lst vs)) (n : ¬ N a) (r : Reps K cl B μ H xs vs) : ItOk K cl (JEn k K a vs) N B μ H (enL xs) := by
  have hl := r.length
  refine ⟨by rw [enL_length, hl]; exact len_of l h, fun i H' hi kk => ⟨by rw [enL_length] at hi; omega, sqk_of (rd_kk kk h n)⟩, fun H' kk => ⟨by rw [enL_length]; exact hl.symm, sqk_of (rd_kk kk h n)⟩, fun i H' v H2 B' μ' hi kk kp bt y => ?_⟩
  obtain ⟨T, w, e1, e2, e3, e4⟩ := y
  obtain ⟨x, hx, rx⟩ := r.get' e4
  have kt := kp_new (B' := B') (μ' := μ') (o := .tup [.int (i : Nat), w]) e2
  refine ⟨_, enL_get hx, ?_, .inr ⟨T, _, e2, e3⟩⟩
  rw [e1, e3]
  exact .tup upd_same (fun z => (bt T z).ne e2) (.cons (.int _) (.cons ((rx.mono kp).mono kt) .nil))
theorem it_zp {K : PySem.W.Frag} {N B : Addr → Prop} {μ : List Addr} {H : Hp} {a b : Addr} {vs us : List V} {xs ys : List Vl} {k k2 : Bool} (l : LenOk H) (h : Rd H a (if k then .tup vs else .lst vs)) (h2 : Rd H b (if k2 then .tup us else .lst us)) (n : ¬ N a) (n2 : ¬ N b) (r : Reps K cl B μ H xs vs) (r2 : Reps K cl B μ H ys us) : ItOk K cl (JZp k k2 K a b vs us) N B μ H (zpL xs ys) := by
  have hl := r.length
  have hl2 := r2.length
  refine ⟨?_, fun i H' hi kk => ⟨by rw [zpL_length] at hi; omega, sqk_of (rd_kk kk h n), sqk_of (rd_kk kk h2 n2)⟩, fun H' kk => ⟨by rw [zpL_length]; omega, sqk_of (rd_kk kk h n), sqk_of (rd_kk kk h2 n2)⟩, fun i H' v H2 B' μ' hi kk kp bt y => ?_⟩
  · rw [zpL_length]
    have := len_of l h
    omega
  · obtain ⟨T, w, w2, e1, e2, e3, e4, e5⟩ := y
    obtain ⟨x, hx, rx⟩ := r.get' e4
    obtain ⟨y, hy, ry⟩ := r2.get' e5
    have kt := kp_new (B' := B') (μ' := μ') (o := .tup [w, w2]) e2
    refine ⟨_, zpL_get hx hy, ?_, .inr ⟨T, _, e2, e3⟩⟩
    rw [e1, e3]
    exact .tup upd_same (fun z => (bt T z).ne e2) (.cons ((rx.mono kp).mono kt) (.cons ((ry.mono kp).mono kt) .nil))
theorem di_en {elts : List Expr} {kk : Nat} {tpos p : Pos} {a : Expr} (hg : Gl X "enumerate") (hm : X.mg "enumerate" = none) (ha : PA X [a] (tDA X.K cl E mA)) (hs : starEach [a] X.env = [(false, eval a X.env)] := by rfl) : PI X (.Tuple elts kk tpos) (.Call (.Name "enumerate" p) [a] [] pos) (tI true X.K cl E (enI mA)) :=
  (pi_en hg hm ha hs).imp fun σ H R ⟨W, ω, μ, S, env, rl, q⟩ => ⟨W, ω, μ, S, env, rl, q.bind.mono fun xs S1 μ1 H1 ee s1 e1 q1 vs rs => by
    match xs, rs, q1 with
    | [x], .cons r .nil, q1 =>
      dsimp only at q1
      cases hx : seqOf x with
      | none => rw [hx] at q1; exact q1.elim
      | some ys =>
        rw [hx] at q1
        obtain ⟨k, a, us, rfl, h1, h2, h3⟩ := seq_repS r hx
        exact ⟨k, a, us, rfl, sqk_of h1, fun l => q1 μ1 H1 s1 Ext.refl _ (it_en l h1 (fun z => z.elim (fun z => h2 (.inl z)) fun z => h2 (.inr (.inr z.2))) h3)⟩⟩
theorem di_enL {elts : List Expr} {kk : Nat} {tpos p : Pos} {a : Expr} (hg : Gl X "enumerate") (hm : X.mg "enumerate" = none) (ha : PA X [a] (tLA X.K cl E mA)) (hs : starEach [a] X.env = [(false, eval a X.env)] := by rfl) : PI X (.Tuple elts kk tpos) (.Call (.Name "enumerate" p) [a] [] pos) (tI false X.K cl E (enI mA)) :=
  (pi_en hg hm ha hs).imp fun σ H R ⟨W, ω, μ, S, env, rl, q⟩ => ⟨W, ω, μ, S, env, rl, q.bind.mono fun xs S1 μ1 H1 ee s1 e1 q1 vs rs => by
    match xs, rs, q1 with
    | [x], .cons r .nil, q1 =>
      dsimp only at q1
      cases hx : seqOf x with
      | none => rw [hx] at q1; exact q1.elim
      | some ys =>
        rw [hx] at q1
        obtain ⟨k, a, us, rfl, h1, h2, h3⟩ := seq_rep s1 r hx
        exact ⟨k, a, us, rfl, sqk_of h1, fun l => q1 μ1 H1 s1 Ext.refl _ (it_en l h1 (fun z => z.elim h2 fun z => nomatch z.1) h3)⟩⟩
theorem di_zp {elts : List Expr} {kk : Nat} {tpos p : Pos} {a b : Expr} (hg : Gl X "zip") (hm : X.mg "zip" = none) (ha : PA X [a, b] (tDA X.K cl E mA)) (hs : starEach [a, b] X.env = (false, eval a X.env) :: starEach [b] X.env := by rfl) (hpl : (backTo pos (starEach [b] X.env)).any (·.1) = false := by rfl) :
    PI X (.Tuple elts kk tpos) (.Call (.Name "zip" p) [a, b] [] pos) (tI true X.K cl E (zpI mA)) :=
  (pi_zp hg hm ha hs hpl).imp fun σ H R ⟨W, ω, μ, S, env, rl, q⟩ => ⟨W, ω, μ, S, env, rl, q.bind.mono fun xs S1 μ1 H1 ee s1 e1 q1 vs rs => by
    match xs, rs, q1 with
    | [x, y], .cons r (.cons r2 .nil), q1 =>
      dsimp only at q1
      cases hx : seqOf x with
      | none => rw [hx] at q1; exact q1.elim
      | some ys =>
        cases hy : seqOf y with
        | none => rw [hx, hy] at q1; exact q1.elim
        | some zs =>
          rw [hx, hy] at q1
          obtain ⟨k, a, us, rfl, h1, h2, h3⟩ := seq_repS r hx
          obtain ⟨k2, b, ws, rfl, g1, g2, g3⟩ := seq_repS r2 hy
          exact ⟨k, k2, a, b, us, ws, rfl, sqk_of h1, sqk_of g1, fun l => q1 μ1 H1 s1 Ext.refl _ (it_zp l h1 g1 (fun z => z.elim (fun z => h2 (.inl z)) fun z => h2 (.inr (.inr z.2))) (fun z => z.elim (fun z => g2 (.inl z)) fun z => g2 (.inr (.inr z.2))) h3 g3)⟩⟩
theorem di_zpL {elts : List Expr} {kk : Nat} {tpos p : Pos} {a b : Expr} (hg : Gl X "zip") (hm : X.mg "zip" = none) (ha : PA X [a, b] (tLA X.K cl E mA)) (hs : starEach [a, b] X.env = (false, eval a X.env) :: starEach [b] X.env := by rfl) (hpl : (backTo pos (starEach [b] X.env)).any (·.1) = false := by rfl) :
    PI X (.Tuple elts kk tpos) (.Call (.Name "zip" p) [a, b] [] pos) (tI false X.K cl E (zpI mA)) :=
  (pi_zp hg hm ha hs hpl).imp fun σ H R ⟨W, ω, μ, S, env, rl, q⟩ => ⟨W, ω, μ, S, env, rl, q.bind.mono fun xs S1 μ1 H1 ee s1 e1 q1 vs rs => by
    match xs, rs, q1 with
    | [x, y], .cons r (.cons r2 .nil), q1 =>
      dsimp only at q1
      cases hx : seqOf x with
      | none => rw [hx] at q1; exact q1.elim
      | some ys =>
        cases hy : seqOf y with
        | none => rw [hx, hy] at q1; exact q1.elim
        | some zs =>
          rw [hx, hy] at q1
          obtain ⟨k, a, us, rfl, h1, h2, h3⟩ := seq_rep s1 r hx
          obtain ⟨k2, b, ws, rfl, g1, g2, g3⟩ := seq_rep s1 r2 hy
          exact ⟨k, k2, a, b, us, ws, rfl, sqk_of h1, sqk_of g1, fun l => q1 μ1 H1 s1 Ext.refl _ (it_zp l h1 g1 (fun z => z.elim h2 fun z => nomatch z.1) (fun z => z.elim g2 fun z => nomatch z.1) h3 g3)⟩⟩
/-! ### a text -/
def chars (z : Str) : List Vl := z.cps.toList.map fun c => .str ⟨#[c]⟩
def strI (m : EM) : IM := fun env S => (m env S).bind fun x S1 => match x with
  | .str z => if z.cps.size ≤ 16777216 then .ok (chars z) S1 else .bad
  | _ => .bad
theorem it_str {K : PySem.W.Frag} {N B : Addr → Prop} {μ : List Addr} {H : Hp} {z : Str} (h : z.cps.size ≤ 16777216) : ItOk K cl (Its z) N B μ H (chars z) := by
  have hl : (chars z).length = z.cps.size := by simp [chars]
  refine ⟨by rw [hl, sizeLine_eq]; exact h, fun i H' hi k => by rw [hl] at hi; exact hi, fun H' k => by rw [hl]; exact Nat.le_refl _, fun i H' v H2 B' μ' hi k kp _ y => ?_⟩
  obtain ⟨e1, c, e2, e3⟩ := y
  refine ⟨.str ⟨#[c]⟩, ?_, by rw [e3]; exact .str _, .inl e1⟩
  have e4 : z.cps.toList[i]? = some c := by rw [Array.getElem?_toList]; exact e2
  simp [chars, e4]
theorem di_str {st : Bool} {tg : Expr} (h : PE X e (tD X.K cl E m)) : PI X tg e (tI st X.K cl E (strI m)) :=
  (pi_str h).imp fun σ H R ⟨W, ω, μ, S, env, rl, q⟩ => ⟨W, ω, μ, S, env, rl, q.bind.mono fun x S1 μ1 H1 ee s1 e1 q1 v rv => by
    cases x with
    | str z =>
      cases rv
      dsimp only at q1
      split at q1
      · exact ⟨z, rfl, q1 μ1 H1 s1 Ext.refl _ (it_str (by assumption))⟩
      · exact q1.elim
    | _ => exact q1.elim⟩
end
end Dm

set_option Elab.async false
set_option linter.all false
set_option maxRecDepth 100000
set_option autoImplicit false
set_option maxHeartbeats 1000000
/-! Dm9: operators by values. -/
namespace Dm
open PySem PySem.Spec L2
section
variable {K : PySem.W.Frag} {cl : Cl} {W : Addr → Prop} {ω : List (Option Addr)} {μ : List Addr} {S : Sto} {H : Hp} {v : V} {xs : List Vl}
theorem repL_int {i : Int} (r : RepL K cl W ω μ H (.int i) v) : v = .int i := by
  rcases r with r | ⟨a, _, _, r⟩
  · cases r; rfl
  · cases r
theorem repL_str {i : Str} (r : RepL K cl W ω μ H (.str i) v) : v = .str i := by
  rcases r with r | ⟨a, _, _, r⟩
  · cases r; rfl
  · cases r
theorem repL_bl {i : Bool} (r : RepL K cl W ω μ H (.bl i) v) : v = .bl i := by
  rcases r with r | ⟨a, _, _, r⟩
  · cases r; rfl
  · cases r
theorem repL_non (r : RepL K cl W ω μ H .non v) : v = .non := by
  rcases r with r | ⟨a, _, _, r⟩
  · cases r; rfl
  · cases r
theorem repL_lst (r : RepL K cl W ω μ H (.lst xs) v) : ∃ a vs, v = .ref a ∧ H a = some (.lst vs) ∧ Reps K cl (Bn (Wo W ω) μ) μ H xs vs := by
  rcases r with r | ⟨a, e, _, r⟩
  · cases r with
    | lst h1 h2 h3 => exact ⟨_, _, rfl, h1, h3⟩
  · cases r with
    | lst h1 h2 => exact ⟨a, _, e, h1, h2⟩
theorem repL_tup (r : RepL K cl W ω μ H (.tup xs) v) : ∃ a vs, v = .ref a ∧ H a = some (.tup vs) ∧ ¬ Bn (Wo W ω) μ a ∧ Reps K cl (Bn (Wo W ω) μ) μ H xs vs := by
  rcases r with r | ⟨a, e, _, r⟩
  · cases r with
    | tup h1 h2 h3 => exact ⟨_, _, rfl, h1, h2, h3⟩
  · cases r
theorem repL_scr {ns : List Int} (r : RepL K cl W ω μ H (.scr ns) v) : ∃ a, v = .ref a ∧ SqL K H a (ns.map V.int) := by
  rcases r with r | ⟨a, e, _, r⟩
  · cases r with
    | scr h => exact ⟨_, rfl, h.sq⟩
  · cases r
theorem rep_newT {p : Addr} {vs : List V} (s : Sim K cl (Wo W ω) μ S H) (hp : H p = none) (r : Reps K cl (Bn (Wo W ω) μ) μ H xs vs) : Rep K cl (Bn (Wo W ω) μ) μ (upd H p (.tup vs)) (.tup xs) (.ref p) := .tup upd_same (s.free hp) (r.mono (Ext.fresh hp).kp)
theorem rep_newL {p : Addr} {vs : List V} (s : Sim K cl (Wo W ω) μ S H) (hp : H p = none) (r : Reps K cl (Bn (Wo W ω) μ) μ H xs vs) : Rep K cl (Bn (Wo W ω) μ) μ (upd H p (.lst vs)) (.lst xs) (.ref p) := .lst upd_same (s.free hp) (r.mono (Ext.fresh hp).kp)
end
section
variable {X : Cx} {cl : Cl}
/-! ### + - * // % ** << >> & -/
def addF : F2 := fun _ x y => match x, y with
  | .int i, .int j => some (.int (i + j))
  | .str a, .str b => if a.length + b.length ≤ 16777216 then some (.str (a ++ b)) else none
  | .lst xs, .lst ys => if xs.length + ys.length ≤ 16777216 then some (.lst (xs ++ ys)) else none
  | .tup xs, .tup ys => if xs.length + ys.length ≤ 16777216 then some (.tup (xs ++ ys)) else none
  | _, _ => none
def rAddX (K : PySem.W.Frag) : R2 := fun v u H Q => rI0 (fun i j => .int (i + j)) v u H Q ∨ (∃ i j, v = .str i ∧ u = .str j ∧ i.length + j.length ≤ sizeLine ∧ Q (.str (i ++ j)) H) ∨ rCat v u H Q ∨ rCatA K v u H Q
theorem o_add : OpR X (binaryOp .Add) (rAddX X.K) := op_add.or (op_add_str.or (op_cat.or op_catA))
theorem s_add : Op2 X cl (rAddX X.K) addF := fun W ω μ S H x y z v u Q s rx ry h k => by
  unfold addF at h
  split at h
  · cases h
    exact .inl ⟨_, _, repL_int rx, repL_int ry, k H _ s Ext.refl (.int _)⟩
  · split at h
    · cases h
      exact .inr (.inl ⟨_, _, repL_str rx, repL_str ry, by rw [sizeLine_eq]; assumption, k H _ s Ext.refl (.str _)⟩)
    · cases h
  · split at h
    · cases h
      obtain ⟨a, vs, rfl, h1, h2⟩ := repL_lst rx
      obtain ⟨b, us, rfl, g1, g2⟩ := repL_lst ry
      exact .inr (.inr (.inl ⟨a, b, vs, us, rfl, rfl, h1, g1, by rw [sizeLine_eq, ← h2.length, ← g2.length]; assumption, fun p hp => k _ _ (s.fresh hp) (Ext.fresh hp) (rep_newL s hp (h2.append g2))⟩))
    · cases h
  · split at h
    · cases h
      obtain ⟨a, vs, rfl, h1, hb, h2⟩ := repL_tup rx
      obtain ⟨b, us, rfl, g1, gb, g2⟩ := repL_tup ry
      refine .inr (.inr (.inr ⟨a, b, vs, us, rfl, rfl, .of h1, .of g1, by rw [sizeLine_eq, ← h2.length, ← g2.length]; assumption, fun e => ?_, fun e e2 => ?_, fun e e2 p hp => k _ _ (s.fresh hp) (Ext.fresh hp) (rep_newT s hp (h2.append g2))⟩))
      · subst e
        cases h2
        exact k H _ s Ext.refl (.tup g1 gb g2)
      · subst e2
        cases g2
        rw [List.append_nil] at k
        exact k H _ s Ext.refl (.tup h1 hb h2)
    · cases h
  · cases h
/-- list + list, a new list -/
def catF : F2 := fun _ x y => match x, y with
  | .lst xs, .lst ys => if xs.length + ys.length ≤ 16777216 then some (.lst (xs ++ ys)) else none
  | _, _ => none
theorem s_cat : Op2N X cl rCat catF := fun W ω μ S H x y z v u Q s rx ry h k => by
  unfold catF at h
  split at h
  · split at h
    · cases h
      obtain ⟨a, vs, rfl, h1, h2⟩ := repL_lst rx
      obtain ⟨b, us, rfl, g1, g2⟩ := repL_lst ry
      exact ⟨a, b, vs, us, rfl, rfl, h1, g1, by rw [sizeLine_eq, ← h2.length, ← g2.length]; assumption, fun p hp => k p _ hp (.lst (h2.append g2))⟩
    · cases h
  · cases h
/-- script + list -/
def rCatS (K : PySem.W.Frag) : R2 := fun x y H Q => ∃ l b xs zs, x = .ref l ∧ y = .ref b ∧ SqL K H l xs ∧ SqL K H b zs ∧ xs.length + zs.length ≤ sizeLine ∧ ∀ p, H p = none → Q (.ref p) (upd H p (.lst (xs ++ zs)))
theorem op_catS : OpR X (binaryOp .Add) (rCatS X.K) := by
  intro pins s σ H x y v u Q I rx ry h
  obtain ⟨l, b, xs, zs, rfl, rfl, hl, hb, hz, q⟩ := h
  cases rx
  cases ry
  obtain ⟨its, r1, p1, z1⟩ := I.list hl
  obtain ⟨its2, r2, p2, z2⟩ := I.list hb
  obtain ⟨⟨c1, d1, dt1, sl1⟩, n1, e1, hc1, hd1, hdt1⟩ := p1
  obtain ⟨⟨c2, d2, dt2, sl2⟩, n2, e2, hc2, hd2, hdt2⟩ := p2
  simp only at hc1 hd1 hdt1 hc2 hd2 hdt2
  subst hc1 hd1 hdt1 hc2 hd2 hdt2
  have ea : its.toArray ++ its2.toArray = (its ++ its2).toArray := by simp
  have sz : its.toArray.size + its2.toArray.size ≤ sizeLine := by
    have w1 := r1.length
    have w2 := r2.length
    rw [List.size_toArray, List.size_toArray]
    omega
  refine concat_meets ⟨_, e1, rfl⟩ ⟨_, e2, rfl⟩ noFill_list_add seq_list_add PySem.F.slot_list_add PySem.F.entry_list_add (PySem.F.args_list_add_2 _ _)
    (PyProof.Rows.list_addW l b its.toArray its2.toArray n1 n2 none none sl1 sl2 sz) ⟨e1, e2, ?_⟩
  rw [ea]
  exact ⟨.ref _, _, I.lnew (t' := s.toks) (r1.append r2) (by rw [List.length_append]; omega), rfl, q _ I.fresh⟩
def catSF : F2 := fun _ x y => match x, y with
  | .scr ns, .lst ys => if ns.length + ys.length ≤ 16777216 then some (.lst (ns.map Vl.int ++ ys)) else none
  | _, _ => none
theorem reps_ints {K : PySem.W.Frag} {B : Addr → Prop} {μ : List Addr} {H : Hp} : ∀ ns : List Int, Reps K cl B μ H (ns.map Vl.int) (ns.map V.int)
  | [] => .nil
  | n :: ns => .cons (.int n) (reps_ints ns)
theorem s_catS : Op2N X cl (rCatS X.K) catSF := fun W ω μ S H x y z v u Q s rx ry h k => by
  unfold catSF at h
  split at h
  · split at h
    · cases h
      obtain ⟨a, rfl, h1⟩ := repL_scr rx
      obtain ⟨b, us, rfl, g1, g2⟩ := repL_lst ry
      exact ⟨a, b, _, us, rfl, rfl, h1, .of g1, by rw [sizeLine_eq, List.length_map, ← g2.length]; assumption, fun p hp => k p _ hp (.lst ((reps_ints _).append g2))⟩
    · cases h
  · cases h
def mulF : F2 := fun _ x y => match x, y with
  | .int i, .int j => if ((-(2 ^ 64) < i ∧ i < 2 ^ 64) ∨ (-(2 ^ 64) < j ∧ j < 2 ^ 64)) ∨ (i.natAbs < 2 ^ 300 ∧ j.natAbs < 2 ^ 300) then some (.int (i * j)) else none
  | .lst xs, .int k => if (-(2 ^ 63) ≤ k ∧ k < 2 ^ 63) ∧ xs.length * k.toNat ≤ 16777216 then some (.lst (List.replicate k.toNat xs).flatten) else none
  | _, _ => none
def rMulX : R2 := fun v u H Q => rI CMul (fun i j => .int (i * j)) v u H Q ∨ rI CMulW (fun i j => .int (i * j)) v u H Q ∨ rRep v u H Q
theorem o_mul : OpR X (binaryOp .Mult) rMulX := op_mul.or (op_mulW.or op_rep)
theorem reps_rep {K : PySem.W.Frag} {B : Addr → Prop} {μ : List Addr} {H : Hp} {xs : List Vl} {vs : List V} (r : Reps K cl B μ H xs vs) : ∀ n : Nat, Reps K cl B μ H (List.replicate n xs).flatten (List.replicate n vs).flatten
  | 0 => .nil
  | n + 1 => by
    rw [List.replicate_succ, List.replicate_succ, List.flatten_cons, List.flatten_cons]
    exact r.append (reps_rep r n)
theorem s_mul : Op2 X cl rMulX mulF := fun W ω μ S H x y z v u Q s rx ry h k => by
  unfold mulF at h
  split at h
  · split at h
    · cases h
      rename_i hb
      rcases hb with hb | hb
      · exact .inl ⟨_, _, repL_int rx, repL_int ry, hb, k H _ s Ext.refl (.int _)⟩
      · exact .inr (.inl ⟨_, _, repL_int rx, repL_int ry, wide_mul hb.1 hb.2 (by decide) (by decide) (by decide), k H _ s Ext.refl (.int _)⟩)
    · cases h
  · split at h
    · rename_i hb
      cases h
      obtain ⟨a, vs, rfl, h1, h2⟩ := repL_lst rx
      exact .inr (.inr ⟨a, _, vs, rfl, repL_int ry, h1, hb.1.1, hb.1.2, by rw [sizeLine_eq, ← h2.length]; exact hb.2, fun p hp => k _ _ (s.fresh hp) (Ext.fresh hp) (rep_newL s hp (reps_rep h2 _))⟩)
    · cases h
  · cases h
def subF : F2 := fun _ x y => match x, y with
  | .int i, .int j => some (.int (i - j))
  | _, _ => none
theorem s_sub : Op2 X cl (rI0 fun i j => .int (i - j)) subF := fun W ω μ S H x y z v u Q s rx ry h k => by
  unfold subF at h
  split at h
  · cases h
    exact ⟨_, _, repL_int rx, repL_int ry, k H _ s Ext.refl (.int _)⟩
  · cases h
def modF : F2 := fun _ x y => match x, y with
  | .int i, .int j => if 0 < j then some (.int (i % j)) else none
  | _, _ => none
theorem s_mod : Op2 X cl (rI (fun _ j => 0 < j) fun i j => .int (i % j)) modF := fun W ω μ S H x y z v u Q s rx ry h k => by
  unfold modF at h
  split at h
  · split at h
    · cases h
      exact ⟨_, _, repL_int rx, repL_int ry, by assumption, k H _ s Ext.refl (.int _)⟩
    · cases h
  · cases h
def fdivF : F2 := fun _ x y => match x, y with
  | .int i, .int j => if 0 < j ∧ j < 2 ^ 200 then some (.int (i / j)) else none
  | _, _ => none
theorem s_fdiv : Op2 X cl (rI CDivW fun i j => .int (i / j)) fdivF := fun W ω μ S H x y z v u Q s rx ry h k => by
  unfold fdivF at h
  split at h
  · split at h
    · rename_i j hb
      cases h
      exact ⟨_, _, repL_int rx, repL_int ry, wide_div hb.1 (b := 200) (by
        have h1 := hb.1
        have h2 := hb.2
        have h3 : (j.natAbs : Int) < ((2 ^ 200 : Nat) : Int) := by
          have : ((2 ^ 200 : Nat) : Int) = 2 ^ 200 := by simp
          omega
        exact Int.ofNat_lt.mp h3) (by decide) (by decide), k H _ s Ext.refl (.int _)⟩
    · cases h
  · cases h
def powF : F2 := fun _ x y => match x, y with
  | .int i, .int j => if 0 ≤ j ∧ j ≤ 1000000 ∧ i.natAbs < 2 ^ 64 then some (.int (i ^ j.toNat)) else none
  | _, _ => none
theorem s_pow : Op2 X cl (rI CPow fun i j => .int (i ^ j.toNat)) powF := fun W ω μ S H x y z v u Q s rx ry h k => by
  unfold powF at h
  split at h
  · split at h
    · cases h
      exact ⟨_, _, repL_int rx, repL_int ry, by assumption, k H _ s Ext.refl (.int _)⟩
    · cases h
  · cases h
def shlF : F2 := fun _ x y => match x, y with
  | .int i, .int j => if 0 ≤ j ∧ j ≤ 1000000 ∧ i.natAbs < 2 ^ 64 then some (.int (i * 2 ^ j.toNat)) else none
  | _, _ => none
theorem s_shl : Op2 X cl (rI CPow fun i j => .int (i * 2 ^ j.toNat)) shlF := fun W ω μ S H x y z v u Q s rx ry h k => by
  unfold shlF at h
  split at h
  · split at h
    · cases h
      exact ⟨_, _, repL_int rx, repL_int ry, by assumption, k H _ s Ext.refl (.int _)⟩
    · cases h
  · cases h
def negF : F1 := fun _ x => match x with
  | .int i => some (.int (-i))
  | _ => none
theorem s_neg : Op1 X cl (rU fun i => .int (-i)) negF := fun W ω μ S H x z v Q s rx h k => by
  unfold negF at h
  split at h
  · cases h
    exact ⟨_, repL_int rx, k H _ s Ext.refl (.int _)⟩
  · cases h
/-! ### order of ints -/
def cmpF (p : Int → Int → Bool) : F2 := fun _ x y => match x, y with
  | .int i, .int j => some (.bl (p i j))
  | _, _ => none
theorem s_cmp (p : Int → Int → Bool) : Op2 X cl (rI0 fun i j => .bl (p i j)) (cmpF p) := fun W ω μ S H x y z v u Q s rx ry h k => by
  unfold cmpF at h
  split at h
  · cases h
    exact ⟨_, _, repL_int rx, repL_int ry, k H _ s Ext.refl (.bl _)⟩
  · cases h
abbrev ltF : F2 := cmpF fun i j => decide (i < j)
abbrev leF : F2 := cmpF fun i j => decide (i ≤ j)
abbrev gtF : F2 := cmpF fun i j => decide (j < i)
abbrev geF : F2 := cmpF fun i j => decide (j ≤ i)
/-! ### is None -/
def Vl.isNon : Vl → Bool
  | .non => true
  | _ => false
def isNF : F2 := fun _ x y => match y with
  | .non => some (.bl x.isNon)
  | _ => none
def notNF : F2 := fun _ x y => match y with
  | .non => some (.bl (!x.isNon))
  | _ => none
theorem non_iff {K : PySem.W.Frag} {W : Addr → Prop} {ω : List (Option Addr)} {μ : List Addr} {H : Hp} {x : Vl} {v : V} (r : RepL K cl W ω μ H x v) : decide (v = .non) = x.isNon := by
  rcases r with r | ⟨a, e, _, r⟩
  · cases r <;> rfl
  · subst e
    cases r <;> rfl
theorem s_isN : Op2 X cl (fun x y H Q => y = .non ∧ Q (.bl (decide (x = .non))) H) isNF := fun W ω μ S H x y z v u Q s rx ry h k => by
  unfold isNF at h
  split at h
  · cases h
    refine ⟨repL_non ry, ?_⟩
    rw [non_iff rx]
    exact k H _ s Ext.refl (.bl _)
  · cases h
theorem s_notN : Op2 X cl (fun x y H Q => y = .non ∧ Q (.bl (!decide (x = .non))) H) notNF := fun W ω μ S H x y z v u Q s rx ry h k => by
  unfold notNF at h
  split at h
  · cases h
    refine ⟨repL_non ry, ?_⟩
    rw [non_iff rx]
    exact k H _ s Ext.refl (.bl _)
  · cases h
end
end Dm

set_option Elab.async false
set_option linter.all false
set_option maxRecDepth 100000
set_option autoImplicit false
set_option maxHeartbeats 1000000
/-! DmA: equality, membership, places, slices, lengths, conversions, all, sum, isinstance, dicts that stand still. -/
namespace Dm
open PySem PySem.Spec L2
/-! ### what may be read of a value, through the store -/
def look (S : Sto) (x : Vl) : Vl := match x with
  | .ref n => (S[n]?).getD x
  | _ => x
def RepR (K : PySem.W.Frag) (cl : Cl) (W : Addr → Prop) (ω : List (Option Addr)) (μ : List Addr) (H : Hp) (x : Vl) (v : V) : Prop := Rep K cl (Bn (Wo W ω) μ) μ H x v ∨ ∃ a, v = .ref a ∧ At K cl (Bn (Wo W ω) μ) μ H a x
section
variable {K : PySem.W.Frag} {cl : Cl} {W : Addr → Prop} {ω : List (Option Addr)} {μ : List Addr} {S : Sto} {H : Hp} {v : V} {xs : List Vl} {x : Vl}
theorem repR_of (s : Sim K cl (Wo W ω) μ S H) (r : RepL K cl W ω μ H x v) : RepR K cl W ω μ H (look S x) v := by
  rcases r with r | ⟨a, e, _, r⟩
  · cases x with
    | ref n =>
      cases r with
      | ref h =>
        cases hs : S[n]? with
        | none =>
          have e : look S (.ref n) = .ref n := by simp [look, hs]
          rw [e]
          exact .inl (.ref h)
        | some y =>
          have e : look S (.ref n) = y := by simp [look, hs]
          rw [e]
          obtain ⟨b, e1, e2⟩ := s.obs n y hs
          rw [h] at e1
          cases e1
          exact .inr ⟨_, rfl, e2⟩
    | _ => exact .inl r
  · cases r with
    | lst h1 h2 => exact .inr ⟨a, e, .lst h1 h2⟩
    | dk h1 h2 h3 => exact .inr ⟨a, e, .dk h1 h2 h3⟩
    | dt h1 h2 h3 => exact .inr ⟨a, e, .dt h1 h2 h3⟩
    | ins h1 h2 h3 => exact .inr ⟨a, e, .ins h1 h2 h3⟩
    | tab h1 h2 h3 => exact .inr ⟨a, e, .tab h1 h2 h3⟩
theorem repR_lst (r : RepR K cl W ω μ H (.lst xs) v) : ∃ a vs, v = .ref a ∧ H a = some (.lst vs) ∧ Reps K cl (Bn (Wo W ω) μ) μ H xs vs := by
  rcases r with r | ⟨a, e, r⟩
  · cases r with
    | lst h1 h2 h3 => exact ⟨_, _, rfl, h1, h3⟩
  · cases r with
    | lst h1 h2 => exact ⟨a, _, e, h1, h2⟩
theorem repR_tup (r : RepR K cl W ω μ H (.tup xs) v) : ∃ a vs, v = .ref a ∧ H a = some (.tup vs) ∧ ¬ Bn (Wo W ω) μ a ∧ Reps K cl (Bn (Wo W ω) μ) μ H xs vs := by
  rcases r with r | ⟨a, e, r⟩
  · cases r with
    | tup h1 h2 h3 => exact ⟨_, _, rfl, h1, h2, h3⟩
  · cases r
theorem repR_dk {ks : List Key} (r : RepR K cl W ω μ H (.dk ks xs) v) : ∃ a kvs, v = .ref a ∧ H a = some (.dK kvs) ∧ kvs.map (·.1) = ks ∧ Reps K cl (Bn (Wo W ω) μ) μ H xs (kvs.map (·.2)) := by
  rcases r with r | ⟨a, e, r⟩
  · cases r with
    | dk h1 h2 h3 h4 => exact ⟨_, _, rfl, h1, h3, h4⟩
  · cases r with
    | dk h1 h2 h3 => exact ⟨a, _, e, h1, h2, h3⟩
theorem repR_ins {c : Nat} {ns : List Str} (r : RepR K cl W ω μ H (.ins c ns xs) v) : ∃ a dx fs, v = .ref a ∧ H a = some (.ins (cl c) dx fs) ∧ fs.map (·.1) = ns ∧ Reps K cl (Bn (Wo W ω) μ) μ H xs (fs.map (·.2)) := by
  rcases r with r | ⟨a, e, r⟩
  · cases r with
    | ins h1 h2 h3 h4 => exact ⟨_, _, _, rfl, h1, h3, h4⟩
  · cases r with
    | ins h1 h2 h3 => exact ⟨a, _, _, e, h1, h2, h3⟩
theorem repR_str {z : Str} (r : RepR K cl W ω μ H (.str z) v) : v = .str z := by
  rcases r with r | ⟨a, e, r⟩
  · cases r; rfl
  · cases r
theorem at_reps {i : Int} {vs : List V} (r : Reps K cl (Bn (Wo W ω) μ) μ H xs vs) (h : atI xs i = some x) : ∃ v, atI vs i = some v ∧ Rep K cl (Bn (Wo W ω) μ) μ H x v := by
  unfold atI at h ⊢
  rw [r.length] at h
  cases e : ixN vs.length i with
  | none => rw [e] at h; cases h
  | some j =>
    rw [e] at h
    exact r.get (i := j) h
end
/-! ### data -/
mutual
def toD : Vl → PyData
  | .non => .none
  | .bl b => .bool b
  | .int i => .int i
  | .str x => .str x
  | .tup xs => .tuple (toDs xs)
  | .lst xs => .list (toDs xs)
  | .dk _ _ => .none
  | .dt _ _ => .none
  | .ins _ _ _ => .none
  | .ref _ => .none
  | .scr _ => .none
  | .ftp xs => .tuple (toDs xs)
  | .tab _ _ => .none
  | .exn _ _ _ => .none
  | .fdk _ _ => .none
  | .fdt _ _ => .none
def toDs : List Vl → List PyData
  | [] => []
  | x :: xs => toD x :: toDs xs
end
def okN : Nat → Vl → Bool
  | 0, _ => false
  | n + 1, x => match x with
    | .non => true
    | .bl _ => true
    | .int _ => true
    | .str z => z.cps.all (· < 0x110000)
    | .tup xs => xs.all (okN n)
    | .ftp xs => xs.all (okN n)
    | .lst xs => xs.all (okN n)
    | _ => false
def okD (x : Vl) : Bool := okN 60 x
def Vl.eqv (x y : Vl) : Bool := PyData.eqv (toD x) (toD y)
theorem okN_ok : ∀ {n : Nat} {x : Vl}, okN n x = true → (toD x).canLay0 = true ∧ (toD x).depth ≤ n
  | 0, _, h => by cases h
  | n + 1, x, h => by
    have all : ∀ {xs : List Vl}, xs.all (okN n) = true → PyData.canLayAll0 (toDs xs) = true ∧ PyData.depthAll (toDs xs) ≤ n := by
      intro xs
      induction xs with
      | nil => intro _; exact ⟨by simp [toDs, PyData.canLayAll0], by simp [toDs, PyData.depthAll]⟩
      | cons y ys ih =>
        intro q
        rw [List.all_cons, Bool.and_eq_true] at q
        obtain ⟨a1, a2⟩ := okN_ok q.1
        obtain ⟨b1, b2⟩ := ih q.2
        refine ⟨by simp [toDs, PyData.canLayAll0, a1, b1], ?_⟩
        simp only [toDs, PyData.depthAll]
        omega
    cases x with
    | non => simp [toD, PyData.canLay0, PyData.depth]
    | bl b => simp [toD, PyData.canLay0, PyData.depth]
    | int i => simp [toD, PyData.canLay0, PyData.depth]
    | str z =>
      have h' : z.cps.all (· < 0x110000) = true := h
      exact ⟨by simpa [toD, PyData.canLay0, PyData.strOk] using h', by simp [toD, PyData.depth]⟩
    | tup xs =>
      obtain ⟨a, b⟩ := all (xs := xs) h
      exact ⟨by simpa [toD, PyData.canLay0] using a, by simp only [toD, PyData.depth]; omega⟩
    | lst xs =>
      obtain ⟨a, b⟩ := all (xs := xs) h
      exact ⟨by simpa [toD, PyData.canLay0] using a, by simp only [toD, PyData.depth]; omega⟩
    | ftp xs =>
      obtain ⟨a, b⟩ := all (xs := xs) h
      exact ⟨by simpa [toD, PyData.canLay0] using a, by simp only [toD, PyData.depth]; omega⟩
    | dk _ _ => cases h
    | dt _ _ => cases h
    | ins _ _ _ => cases h
    | ref _ => cases h
    | scr _ => cases h
    | tab _ _ => cases h
    | exn _ _ _ => cases h
    | fdk _ _ => cases h
    | fdt _ _ => cases h
theorem okD_shaped {x : Vl} (h : okD x = true) : SeqAt.shaped (toD x) = true := by
  obtain ⟨a, b⟩ := okN_ok h
  unfold SeqAt.shaped
  rw [a, decide_eq_true (by omega : (toD x).depth ≤ 64)]
  rfl
section
variable {K : PySem.W.Frag} {cl : Cl} {B : Addr → Prop} {μ : List Addr} {H : Hp}
theorem dp_of : ∀ {n : Nat} {x : Vl} {v : V}, okN n x = true → Rep K cl B μ H x v → Dp K H v (toD x)
  | 0, _, _, h, _ => by cases h
  | n + 1, x, v, h, r => by
    have all : ∀ {xs : List Vl} {vs : List V}, xs.all (okN n) = true → Reps K cl B μ H xs vs → DpAll K H vs (toDs xs) := by
      intro xs
      induction xs with
      | nil => intro vs _ r; cases r; simp only [toDs]; exact .nil
      | cons y ys ih =>
        intro vs q r
        rw [List.all_cons, Bool.and_eq_true] at q
        cases r with
        | cons r rs => simp only [toDs]; exact .cons (dp_of q.1 r) (ih q.2 rs)
    cases r with
    | non => simp only [toD]; exact .non
    | bl b => simp only [toD]; exact .bl b
    | int i => simp only [toD]; exact .int i
    | str z => simp only [toD]; exact .str z
    | tup h1 h2 h3 => simp only [toD]; exact .tup (.of h1) (all h h3)
    | lst h1 h2 h3 => simp only [toD]; exact .lst (.of h1) (all h h3)
    | ftp h1 h0 h2 h3 => simp only [toD]; exact .tup (.inl (.inr ⟨_, h1⟩)) (all h h3)
    | scr _ => cases h
    | dk _ _ _ _ => cases h
    | dt _ _ _ _ => cases h
    | ins _ _ _ _ => cases h
    | ref _ => cases h
    | tab _ _ _ _ => cases h
    | exn _ _ _ _ _ _ => cases h
    | fdk _ _ _ _ => cases h
    | fdt _ _ _ _ => cases h
    | exz _ _ => cases h
end
theorem dp_ofR {K : PySem.W.Frag} {cl : Cl} {W : Addr → Prop} {ω : List (Option Addr)} {μ : List Addr} {H : Hp} {x : Vl} {v : V} (h : okD x = true) (r : RepR K cl W ω μ H x v) : Dp K H v (toD x) := by
  rcases r with r | ⟨a, e, r⟩
  · exact dp_of h r
  · cases r with
    | @lst xs vs h1 h2 =>
      subst e
      have all : ∀ {xs : List Vl} {vs : List V}, xs.all (okN 59) = true → Reps K cl (Bn (Wo W ω) μ) μ H xs vs → DpAll K H vs (toDs xs) := by
        intro xs
        induction xs with
        | nil => intro vs _ r; cases r; simp only [toDs]; exact .nil
        | cons y ys ih =>
          intro vs q r
          rw [List.all_cons, Bool.and_eq_true] at q
          cases r with
          | cons r rs => simp only [toDs]; exact .cons (dp_of q.1 r) (ih q.2 rs)
      simp only [toD]
      exact .lst (.of h1) (all h h2)
    | dk _ _ _ => cases h
    | dt _ _ _ => cases h
    | ins _ _ _ => cases h
    | tab _ _ _ => cases h
section
variable {X : Cx} {cl : Cl}
def eqF : F2 := fun S x y => if okD (look S x) && okD (look S y) then some (.bl ((look S x).eqv (look S y))) else none
def neF : F2 := fun S x y => if okD (look S x) && okD (look S y) then some (.bl (!(look S x).eqv (look S y))) else none
theorem s_eq : Op2 X cl (rEqD X.K) eqF := fun W ω μ S H x y z v u Q s rx ry h k => by
  unfold eqF at h
  split at h
  · rename_i hc
    rw [Bool.and_eq_true] at hc
    cases h
    exact ⟨_, _, dp_ofR hc.1 (repR_of s rx), dp_ofR hc.2 (repR_of s ry), okD_shaped hc.1, okD_shaped hc.2, k H _ s Ext.refl (.bl _)⟩
  · cases h
theorem s_ne : Op2 X cl (rNeD X.K) neF := fun W ω μ S H x y z v u Q s rx ry h k => by
  unfold neF at h
  split at h
  · rename_i hc
    rw [Bool.and_eq_true] at hc
    cases h
    exact ⟨_, _, dp_ofR hc.1 (repR_of s rx), dp_ofR hc.2 (repR_of s ry), okD_shaped hc.1, okD_shaped hc.2, k H _ s Ext.refl (.bl _)⟩
  · cases h
/-! ### dicts that stand still -/
def keyV : Vl → Option Key
  | .int i => some (.inl i)
  | .str z => some (.inr z)
  | _ => none
def dkGet : List Key → List Vl → Key → Option Vl
  | q :: ks, x :: xs, k => if q = k then some x else dkGet ks xs k
  | _, _, _ => none
theorem dkGet_val {K : PySem.W.Frag} {B : Addr → Prop} {μ : List Addr} {H : Hp} : ∀ {kvs : List (Key × V)} {ks : List Key} {xs : List Vl} {k : Key}, kvs.map (·.1) = ks → Reps K cl B μ H xs (kvs.map (·.2)) →
    (∀ x, dkGet ks xs k = some x → ∃ v, valV kvs k = some v ∧ Rep K cl B μ H x v) ∧ (dkGet ks xs k = none → valV kvs k = none)
  | [], ks, xs, k, e, r => by
    cases e
    refine ⟨?_, fun _ => rfl⟩
    intro x h
    simp only [List.map_nil, dkGet] at h
    cases h
  | (q, v) :: kvs, ks, xs, k, e, r => by
    cases e
    cases r with
    | @cons x xs v vs r rs =>
      obtain ⟨i1, i2⟩ := dkGet_val (kvs := kvs) (k := k) rfl rs
      by_cases hq : q = k
      · refine ⟨fun y h => ?_, fun h => ?_⟩
        · simp only [List.map_cons, dkGet, if_pos hq] at h
          cases h
          exact ⟨v, valV_pos hq, r⟩
        · simp only [List.map_cons, dkGet, if_pos hq] at h
          cases h
      · refine ⟨fun y h => ?_, fun h => ?_⟩
        · simp only [List.map_cons, dkGet, if_neg hq] at h
          rw [valV_neg hq]
          exact i1 y h
        · simp only [List.map_cons, dkGet, if_neg hq] at h
          rw [valV_neg hq]
          exact i2 h
theorem key_rep {K : PySem.W.Frag} {W : Addr → Prop} {ω : List (Option Addr)} {μ : List Addr} {H : Hp} {x : Vl} {v : V} {k : Key} (r : RepL K cl W ω μ H x v) (h : keyV x = some k) : v = kV k := by
  cases x with
  | int i => cases h; exact repL_int r
  | str z => cases h; exact repL_str r
  | _ => cases h
/-! ### places -/
def ixF : F2 := fun S x y => match look S x, y with
  | .lst xs, .int i => atI xs i
  | .tup xs, .int i => atI xs i
  | .str z, .int i => if z.length ≤ 16777216 then (atI z.cps.toList i).map fun c => .str ⟨#[c]⟩ else none
  | .dk ks xs, k => (keyV k).bind (dkGet ks xs)
  | _, _ => none
def rIxD : R2 := fun x y H Q => ∃ a v, x = .ref a ∧ DGet H a y (some v) ∧ Q v H
theorem ix_dict (hu : X.A.units + 1 < cLine) : IxR X rIxD := by
  intro value slice pins s σ H x y v u Q I rx ry h hs
  obtain ⟨a, w, rfl, g, q⟩ := h
  cases rx
  exact PyProof.Rows.tail_any (dict_typeIs I g) PySem.F.slot_dict_getitem.lookup (d_getItem hu I g ry fun w' s' I' r' => ⟨w, H, I', r', q⟩) hs
def rIxX (K : PySem.W.Frag) : R2 := fun x y H Q => rIx K x y H Q ∨ rIxD x y H Q
theorem o_ix (hu : X.A.units + 1 < cLine) : IxR X (rIxX X.K) := ix_seq.or (ix_dict hu)
theorem s_ix : Op2 X cl (rIxX X.K) ixF := fun W ω μ S H x y z v u Q s rx ry h k => by
  have rr := repR_of s rx
  unfold ixF at h
  revert rr h
  generalize look S x = x'
  intro h rr
  split at h
  · obtain ⟨a, vs, rfl, h1, h2⟩ := repR_lst rr
    obtain ⟨w, g1, g2⟩ := at_reps h2 h
    exact .inl (.inl ⟨a, vs, _, w, rfl, repL_int ry, .of h1, g1, k H _ s Ext.refl g2⟩)
  · obtain ⟨a, vs, rfl, h1, _, h2⟩ := repR_tup rr
    obtain ⟨w, g1, g2⟩ := at_reps h2 h
    exact .inl (.inr (.inl ⟨a, vs, _, w, rfl, repL_int ry, .of h1, g1, k H _ s Ext.refl g2⟩))
  · split at h
    · obtain ⟨c, h1, rfl⟩ := Option.map_eq_some_iff.mp h
      exact .inl (.inr (.inr ⟨_, _, c, repR_str rr, repL_int ry, by rw [sizeLine_eq]; assumption, h1, k H _ s Ext.refl (.str _)⟩))
    · cases h
  · obtain ⟨a, kvs, rfl, h1, h2, h3⟩ := repR_dk rr
    obtain ⟨q, hq, h4⟩ := Option.bind_eq_some_iff.mp h
    obtain ⟨w, g1, g2⟩ := (dkGet_val h2 h3).1 _ h4
    refine .inr ⟨a, w, rfl, ?_, k H _ s Ext.refl g2⟩
    rw [key_rep ry hq, ← g1]
    exact .k h1
  · cases h
end
end Dm

set_option Elab.async false
set_option linter.all false
set_option maxRecDepth 100000
set_option autoImplicit false
set_option maxHeartbeats 1000000
/-! DmB: membership, slices, built-in calls, isinstance. -/
namespace Dm
open PySem PySem.Spec L2
def Vl.flat : Vl → Bool
  | .non => true
  | .bl _ => true
  | .int _ => true
  | .str _ => true
  | _ => false
def fV : Vl → V
  | .non => .non
  | .bl b => .bl b
  | .int i => .int i
  | .str z => .str z
  | _ => .non
section
variable {K : PySem.W.Frag} {cl : Cl} {B : Addr → Prop} {μ : List Addr} {H : Hp}
theorem flat_rep {x : Vl} {v : V} (h : x.flat = true) (r : Rep K cl B μ H x v) : v = fV x ∧ flatV v = true := by
  cases r <;> first | exact ⟨rfl, rfl⟩ | cases h
theorem flat_reps : ∀ {xs : List Vl} {vs : List V}, xs.all Vl.flat = true → Reps K cl B μ H xs vs → vs = xs.map fV ∧ vs.all flatV = true
  | _, _, _, .nil => ⟨rfl, rfl⟩
  | _, _, h, .cons r rs => by
    rw [List.all_cons, Bool.and_eq_true] at h
    obtain ⟨a1, a2⟩ := flat_rep h.1 r
    obtain ⟨b1, b2⟩ := flat_reps h.2 rs
    exact ⟨by rw [a1, b1, List.map_cons], by rw [List.all_cons, a2, b2]; rfl⟩
end
section
variable {X : Cx} {cl : Cl}
def inB (S : Sto) (x y : Vl) : Option Bool := match look S y with
  | .lst ys => if x.flat && ys.all Vl.flat then some (inV (fV x) (ys.map fV)) else none
  | .tup ys => if x.flat && ys.all Vl.flat then some (inV (fV x) (ys.map fV)) else none
  | .str z => (match x with | .str w => (match w.cps.toList with | [c] => some (decide (c ∈ z.cps.toList)) | _ => none) | _ => none)
  | .dk ks xs => (keyV x).map fun k => (dkGet ks xs k).isSome
  | _ => none
def inF : F2 := fun S x y => (inB S x y).map Vl.bl
def notInF : F2 := fun S x y => (inB S x y).map fun b => .bl (!b)
def rInDct : R2 := fun y x H Q => ∃ a o, x = .ref a ∧ DGet H a y o ∧ Q (.bl o.isSome) H
def rNotInDct : R2 := fun y x H Q => ∃ a o, x = .ref a ∧ DGet H a y o ∧ Q (.bl (!o.isSome)) H
theorem op_inDct (hu : X.A.units + 1 < cLine) : OpR X (compareOp .In) rInDct := by
  intro pins s σ H y x u v Q I ry rx h
  obtain ⟨a, o, rfl, g, q⟩ := h
  cases rx
  exact d_in hu I g ry fun s' I' => ⟨.bl _, H, I', rfl, q⟩
theorem op_notInDct (hu : X.A.units + 1 < cLine) : OpR X (compareOp .NotIn) rNotInDct := by
  intro pins s σ H y x u v Q I ry rx h
  obtain ⟨a, o, rfl, g, q⟩ := h
  cases rx
  exact d_notIn hu I g ry fun s' I' => ⟨.bl _, H, I', rfl, q⟩
def rInX (K : PySem.W.Frag) : R2 := fun x y H Q => rIn K false x y H Q ∨ (∃ (c : Nat) (z : Str), x = .str ⟨#[c]⟩ ∧ y = .str z ∧ Q (.bl (decide (c ∈ z.cps.toList))) H) ∨ rInDct x y H Q
def rNotInX (K : PySem.W.Frag) : R2 := fun x y H Q => rIn K true x y H Q ∨ (∃ (c : Nat) (z : Str), x = .str ⟨#[c]⟩ ∧ y = .str z ∧ Q (.bl (!decide (c ∈ z.cps.toList))) H) ∨ rNotInDct x y H Q
theorem o_in (hu : X.A.units + 1 < cLine) : OpR X (compareOp .In) (rInX X.K) := op_in_seq.or (op_in_sign.or (op_inDct hu))
theorem o_notIn (hu : X.A.units + 1 < cLine) : OpR X (compareOp .NotIn) (rNotInX X.K) := op_notIn_seq.or (op_notIn_sign.or (op_notInDct hu))
theorem repL_flat {K : PySem.W.Frag} {W : Addr → Prop} {ω : List (Option Addr)} {μ : List Addr} {H : Hp} {x : Vl} {v : V} (h : x.flat = true) (r : RepL K cl W ω μ H x v) : v = fV x ∧ flatV v = true := by
  rcases r with r | ⟨a, e, _, r⟩
  · exact flat_rep h r
  · cases r <;> cases h
theorem in_cases {W : Addr → Prop} {ω : List (Option Addr)} {μ : List Addr} {S : Sto} {H : Hp} {x y : Vl} {v u : V} {b : Bool} (s : Sim X.K cl (Wo W ω) μ S H) (rx : RepL X.K cl W ω μ H x v) (ry : RepL X.K cl W ω μ H y u) (h : inB S x y = some b) :
    (∃ p vs, u = .ref p ∧ (SqL X.K H p vs ∨ SqT X.K H p vs) ∧ flatV v = true ∧ vs.all flatV = true ∧ inV v vs = b) ∨ (∃ (c : Nat) (z : Str), v = .str ⟨#[c]⟩ ∧ u = .str z ∧ decide (c ∈ z.cps.toList) = b) ∨ ∃ a o, u = .ref a ∧ DGet H a v o ∧ o.isSome = b := by
  have rr := repR_of s ry
  unfold inB at h
  revert rr h
  generalize look S y = y'
  intro h rr
  split at h
  · split at h
    · rename_i ys hc
      rw [Bool.and_eq_true] at hc
      obtain ⟨a, vs, rfl, h1, h2⟩ := repR_lst rr
      obtain ⟨e1, e2⟩ := flat_reps hc.2 h2
      obtain ⟨e3, e4⟩ := repL_flat hc.1 rx
      refine .inl ⟨a, vs, rfl, .inl (.of h1), e4, e2, ?_⟩
      rw [e3, e1]
      exact Option.some.inj h
    · cases h
  · split at h
    · rename_i ys hc
      rw [Bool.and_eq_true] at hc
      obtain ⟨a, vs, rfl, h1, _, h2⟩ := repR_tup rr
      obtain ⟨e1, e2⟩ := flat_reps hc.2 h2
      obtain ⟨e3, e4⟩ := repL_flat hc.1 rx
      refine .inl ⟨a, vs, rfl, .inr (.of h1), e4, e2, ?_⟩
      rw [e3, e1]
      exact Option.some.inj h
    · cases h
  · split at h
    · rename_i w
      split at h
      · rename_i c hw
        have ew : w = ⟨#[c]⟩ := by
          cases w with
          | mk cps =>
            have : cps = #[c] := by
              apply Array.ext'
              simpa using hw
            rw [this]
        refine .inr (.inl ⟨c, _, by rw [repL_str rx, ew], repR_str rr, Option.some.inj h⟩)
      · cases h
    · cases h
  · obtain ⟨a, kvs, rfl, h1, h2, h3⟩ := repR_dk rr
    obtain ⟨q, hq, h4⟩ := Option.map_eq_some_iff.mp h
    refine .inr (.inr ⟨a, valV kvs q, rfl, by rw [key_rep rx hq]; exact .k h1, ?_⟩)
    obtain ⟨i1, i2⟩ := dkGet_val (k := q) h2 h3
    cases hd : dkGet _ _ q with
    | none => rw [hd] at h4; rw [i2 hd]; exact h4
    | some w =>
      obtain ⟨w', e1, _⟩ := i1 w hd
      rw [hd] at h4
      rw [e1]
      exact h4
  · cases h
theorem s_in : Op2 X cl (rInX X.K) inF := fun W ω μ S H x y z v u Q s rx ry h k => by
  obtain ⟨b, hb, rfl⟩ := Option.map_eq_some_iff.mp h
  have fin := k H _ s Ext.refl (.bl b)
  rcases in_cases s rx ry hb with ⟨p, vs, h1, h2, h3, h4, rfl⟩ | ⟨c, z, h1, h2, rfl⟩ | ⟨a, o, h1, h2, rfl⟩
  · exact .inl ⟨p, vs, h1, h2, h3, h4, fin⟩
  · exact .inr (.inl ⟨c, z, h1, h2, fin⟩)
  · exact .inr (.inr ⟨a, o, h1, h2, fin⟩)
theorem s_notIn : Op2 X cl (rNotInX X.K) notInF := fun W ω μ S H x y z v u Q s rx ry h k => by
  obtain ⟨b, hb, rfl⟩ := Option.map_eq_some_iff.mp h
  have fin := k H _ s Ext.refl (.bl (!b))
  rcases in_cases s rx ry hb with ⟨p, vs, h1, h2, h3, h4, rfl⟩ | ⟨c, z, h1, h2, rfl⟩ | ⟨a, o, h1, h2, rfl⟩
  · exact .inl ⟨p, vs, h1, h2, h3, h4, fin⟩
  · exact .inr (.inl ⟨c, z, h1, h2, fin⟩)
  · exact .inr (.inr ⟨a, o, h1, h2, fin⟩)
/-! ### slices -/
abbrev OM := List Sv → Sto → Res (Option Int)
def oN : OM := fun _ S => .ok none S
def oS (m : EM) : OM := fun env S => (m env S).bind fun x S1 => match x with
  | .int i => .ok (some i) S1
  | _ => .bad
def tO (K : PySem.W.Frag) (cl : Cl) (E : XK) (o : OM) : TO := fun σ H Q => ∃ W ω μ S env, Rl K cl W ω μ S env σ H ∧ SatG K cl (Wo W ω) μ H (o env S) (fun i _ _ H' => Q i H') E
variable {E : XK} {e : Expr} {lo hi : Option Expr} {m ml mh : EM} {ol oh : OM} {pos p2 : Pos}
theorem _root_.L2.PO.imp {t t' : TO} (h : PO X lo t) (k : ∀ σ H Q, t' σ H Q → t σ H Q) : PO X lo t' := ⟨fun pins s σ H Q I q => h.run pins s σ H Q I (k σ H Q q)⟩
theorem do_none : PO X none (tO X.K cl E oN) := po_none.imp fun σ H Q ⟨W, ω, μ, S, env, rl, q⟩ => q μ H rl.sim Ext.refl
theorem do_some (h : PE X e (tD X.K cl E m)) : PO X (some e) (tO X.K cl E (oS m)) := (po_some h).imp fun σ H Q ⟨W, ω, μ, S, env, rl, q⟩ =>
  ⟨W, ω, μ, S, env, rl, q.bind.mono fun x S1 μ1 H1 _ s1 e1 q1 v rv => by
    cases x with
    | int i => cases rv; exact ⟨i, rfl, q1 μ1 H1 s1 Ext.refl⟩
    | _ => exact q1.elim⟩
def cutL {α : Type} (xs : List α) (lo hi : Option Int) : List α := (xs.drop (HT.sIx xs.length 0 lo)).take (HT.sIx xs.length xs.length hi - HT.sIx xs.length 0 lo)
def slF (S : Sto) (x : Vl) (lo hi : Option Int) : Option Vl := match look S x with
  | .lst xs => some (.lst (cutL xs lo hi))
  | .tup xs => some (.tup (cutL xs lo hi))
  | .str z => if z.length ≤ 16777216 then some (.str (cutS z lo hi)) else none
  | _ => none
def slM (m : EM) (l h : OM) : EM := fun env S => (m env S).bind fun x S1 => (l env S1).bind fun a S2 => (h env S2).bind fun b S3 => match slF S3 x a b with
  | some v => .ok v S3
  | none => .bad
def slLF (S : Sto) (x : Vl) (lo hi : Option Int) : Option Vl := match look S x with
  | .lst xs => some (.lst (cutL xs lo hi))
  | _ => none
def slN (m : EM) (l h : OM) : EM := fun env S => (m env S).bind fun x S1 => (l env S1).bind fun a S2 => (h env S2).bind fun b S3 => match slLF S3 x a b with
  | some v => .ok v S3
  | none => .bad
theorem reps_cut {K : PySem.W.Frag} {B : Addr → Prop} {μ : List Addr} {H : Hp} {xs : List Vl} {vs : List V} (r : Reps K cl B μ H xs vs) (lo hi : Option Int) : Reps K cl B μ H (cutL xs lo hi) (cutV vs lo hi) := by
  unfold cutL cutV
  rw [r.length]
  exact (r.drop _).take _
def rSlX (K : PySem.W.Frag) : V → Option Int → Option Int → Hp → VK → Prop := fun x lo hi H Q => rSlL K x lo hi H Q ∨ rSlA K x lo hi H Q ∨ rSlS x lo hi H Q
theorem o_sl : SlR X (rSlX X.K) := sl_list.or (sl_tupA.or sl_str)
theorem cut_whole {α : Type} {xs : List α} {lo hi : Option Int} (h : HT.sIx xs.length 0 lo = 0 ∧ HT.sIx xs.length xs.length hi = xs.length) : cutL xs lo hi = xs := by
  unfold cutL
  rw [h.1, h.2]
  simp
theorem de_sl (he : PE X e (tL X.K cl E m)) (hl : PO X lo (tO X.K cl E ol)) (hh : PO X hi (tO X.K cl E oh)) : PE X (.Subscript e (.Slice lo hi none p2) pos) (tD X.K cl E (slM m ol oh)) := (pe_slice o_sl he hl hh).imp fun σ H Q ⟨W, ω, μ, S, env, rl, q⟩ => by
  refine ⟨W, ω, μ, S, env, rl, q.bind.mono fun x S1 μ1 H1 _ s1 e1 q1 v rv => ⟨W, ω, μ1, S1, env, rl.ext e1 s1, q1.bind.mono fun a S2 μ2 H2 _ s2 e2 q2 => ⟨W, ω, μ2, S2, env, (rl.ext e1 s1).ext e2 s2, q2.bind.mono fun b S3 μ3 H3 _ s3 e3 q3 => ?_⟩⟩⟩
  have rr := repR_of s3 (RepL.mono s2 e3 (RepL.mono s1 e2 rv))
  revert q3 rr
  unfold slF
  generalize look S3 x = x'
  intro q3 rr
  cases x' with
  | lst xs =>
    obtain ⟨p, vs, rfl, h1, h2⟩ := repR_lst rr
    exact .inl ⟨p, vs, rfl, .of h1, fun t ht => q3 μ3 _ (s3.fresh ht) (Ext.fresh ht) _ (rep_newL s3 ht (reps_cut h2 a b))⟩
  | tup xs =>
    obtain ⟨p, vs, rfl, h1, hb, h2⟩ := repR_tup rr
    refine .inr (.inl ⟨p, vs, rfl, .of h1, fun hw => ?_, fun hw t ht => q3 μ3 _ (s3.fresh ht) (Ext.fresh ht) _ (rep_newT s3 ht (reps_cut h2 a b))⟩)
    rw [← h2.length] at hw
    have q4 := q3 μ3 H3 s3 Ext.refl (.ref p)
    rw [cut_whole hw] at q4
    exact q4 (.tup h1 hb h2)
  | str z =>
    by_cases hz : z.length ≤ 16777216
    · dsimp only at q3
      rw [if_pos hz] at q3
      exact .inr (.inr ⟨z, repR_str rr, by rw [sizeLine_eq]; exact hz, q3 μ3 H3 s3 Ext.refl _ (.str _)⟩)
    · dsimp only at q3
      rw [if_neg hz] at q3
      exact q3.elim
  | _ => exact q3.elim
theorem dn_sl (he : PE X e (tL X.K cl E m)) (hl : PO X lo (tO X.K cl E ol)) (hh : PO X hi (tO X.K cl E oh)) : PE X (.Subscript e (.Slice lo hi none p2) pos) (tN X.K cl E (slN m ol oh)) := (pe_slice sl_list he hl hh).imp fun σ H Q ⟨W, ω, μ, S, env, rl, q⟩ => by
  refine ⟨W, ω, μ, S, env, rl, q.bind.mono fun x S1 μ1 H1 _ s1 e1 q1 v rv => ⟨W, ω, μ1, S1, env, rl.ext e1 s1, q1.bind.mono fun a S2 μ2 H2 _ s2 e2 q2 => ⟨W, ω, μ2, S2, env, (rl.ext e1 s1).ext e2 s2, q2.bind.mono fun b S3 μ3 H3 _ s3 e3 q3 => ?_⟩⟩⟩
  have rr := repR_of s3 (RepL.mono s2 e3 (RepL.mono s1 e2 rv))
  revert q3 rr
  unfold slLF
  generalize look S3 x = x'
  intro q3 rr
  cases x' with
  | lst xs =>
    obtain ⟨p, vs, rfl, h1, h2⟩ := repR_lst rr
    exact ⟨p, vs, rfl, .of h1, fun t ht => q3 μ3 _ (s3.fresh ht) (Ext.fresh ht) t (fresh_back e1 (fresh_back e2 (fresh_back e3 ht))) (s3.freshBan ht fun z => s3.tracked (.inl z) ht) (.lst upd_same ((reps_cut h2 a b).mono (Ext.kpBan ht)))⟩
  | _ => exact q3.elim
/-! ### built-in calls -/
theorem repsL1 {K : PySem.W.Frag} {W : Addr → Prop} {ω : List (Option Addr)} {μ : List Addr} {H : Hp} {x : Vl} {vs : List V} (r : RepsL K cl W ω μ H [x] vs) : ∃ v, vs = [v] ∧ RepL K cl W ω μ H x v := by
  cases r with
  | cons a b => cases b; exact ⟨_, rfl, a⟩
theorem repsL2 {K : PySem.W.Frag} {W : Addr → Prop} {ω : List (Option Addr)} {μ : List Addr} {H : Hp} {x y : Vl} {vs : List V} (r : RepsL K cl W ω μ H [x, y] vs) : ∃ v u, vs = [v, u] ∧ RepL K cl W ω μ H x v ∧ RepL K cl W ω μ H y u := by
  cases r with
  | cons a b =>
    cases b with
    | cons b c => cases c; exact ⟨_, _, rfl, a, b⟩
def lenF : FA := fun S xs => match xs with
  | [x] => (match look S x with
    | .lst ys => some (.int ys.length)
    | .tup ys => some (.int ys.length)
    | .ftp ys => some (.int ys.length)
    | .str z => if z.length ≤ 16777216 then some (.int z.length) else none
    | .dk ks _ => some (.int ks.length)
    | _ => none)
  | _ => none
def rLenX (K : PySem.W.Frag) : List V → Hp → VK → Prop := fun xs H Q => (∃ x n, xs = [x] ∧ LenV K x H n ∧ Q (.int n) H) ∨ ∃ a kvs, xs = [V.ref a] ∧ H a = some (.dK kvs) ∧ Q (.int kvs.length) H
theorem o_len : CallR X (.builtin "len") (rLenX X.K) := call_len.or call_lenD
theorem s_len : OpA X cl (rLenX X.K) lenF := fun W ω μ S H xs z vs Q s r h k => by
  unfold lenF at h
  split at h
  · obtain ⟨v, rfl, rv⟩ := repsL1 r
    have rr := repR_of s rv
    revert h rr
    generalize look S _ = x'
    intro h rr
    cases x' with
    | lst ys =>
      cases h
      obtain ⟨p, ws, rfl, h1, h2⟩ := repR_lst rr
      rw [h2.length] at k
      exact .inl ⟨_, _, rfl, .inl ⟨ws, .of h1, rfl⟩, k H _ s Ext.refl (.int _)⟩
    | tup ys =>
      cases h
      obtain ⟨p, ws, rfl, h1, _, h2⟩ := repR_tup rr
      rw [h2.length] at k
      exact .inl ⟨_, _, rfl, .inr ⟨ws, .of h1, rfl⟩, k H _ s Ext.refl (.int _)⟩
    | ftp ys =>
      cases h
      rcases rr with rr | ⟨a, e, rr⟩
      · cases rr with
        | ftp h1 h0 h2 h3 =>
          rw [h3.length] at k
          exact .inl ⟨_, _, rfl, .inr ⟨_, .inl (.inr ⟨_, h1⟩), rfl⟩, k H _ s Ext.refl (.int _)⟩
      · cases rr
    | str w =>
      dsimp only at h
      split at h
      · cases h
        rw [repR_str rr]
        exact .inl ⟨_, _, rfl, ⟨by rw [sizeLine_eq]; assumption, rfl⟩, k H _ s Ext.refl (.int _)⟩
      · cases h
    | dk ks ys =>
      cases h
      obtain ⟨p, kvs, rfl, h1, h2, _⟩ := repR_dk rr
      subst h2
      rw [List.length_map] at k
      exact .inr ⟨_, _, rfl, h1, k H _ s Ext.refl (.int _)⟩
    | _ => cases h
  · cases h
def intF : FA := fun _ xs => match xs with
  | [.int i] => some (.int i)
  | [.bl b] => some (.int (if b then 1 else 0))
  | _ => none
theorem s_int : OpA X cl (fun xs H Q => (∃ i, xs = [.int i] ∧ Q (.int i) H) ∨ ∃ k, xs = [.bl k] ∧ Q (.int (if k then 1 else 0)) H) intF := fun W ω μ S H xs z vs Q s r h k => by
  unfold intF at h
  split at h
  · cases h
    obtain ⟨v, rfl, rv⟩ := repsL1 r
    rw [repL_int rv]
    exact .inl ⟨_, rfl, k H _ s Ext.refl (.int _)⟩
  · cases h
    obtain ⟨v, rfl, rv⟩ := repsL1 r
    rw [repL_bl rv]
    exact .inr ⟨_, rfl, k H _ s Ext.refl (.int _)⟩
  · cases h
def absF : FA := fun _ xs => match xs with
  | [.int i] => some (.int (if i < 0 then -i else i))
  | _ => none
theorem s_abs : OpA X cl (fun xs H Q => ∃ i, xs = [.int i] ∧ Q (.int (if i < 0 then -i else i)) H) absF := fun W ω μ S H xs z vs Q s r h k => by
  unfold absF at h
  split at h
  · cases h
    obtain ⟨v, rfl, rv⟩ := repsL1 r
    rw [repL_int rv]
    exact ⟨_, rfl, k H _ s Ext.refl (.int _)⟩
  · cases h
def tupF : FA := fun S xs => match xs with
  | [x] => (match look S x with
    | .lst ys => some (.tup ys)
    | .tup ys => some (.tup ys)
    | _ => none)
  | _ => none
def rTupC (K : PySem.W.Frag) : List V → Hp → VK → Prop := fun xs H Q => ∃ p ys, xs = [.ref p] ∧ ((SqL K H p ys ∧ ∀ l, H l = none → Q (.ref l) (upd H l (.tup ys))) ∨ (SqT K H p ys ∧ Q (.ref p) H))
theorem s_tup : OpA X cl (rTupC X.K) tupF := fun W ω μ S H xs z vs Q s r h k => by
  unfold tupF at h
  split at h
  · obtain ⟨v, rfl, rv⟩ := repsL1 r
    have rr := repR_of s rv
    revert h rr
    generalize look S _ = x'
    intro h rr
    cases x' with
    | lst ys =>
      cases h
      obtain ⟨p, ws, rfl, h1, h2⟩ := repR_lst rr
      exact ⟨p, ws, rfl, .inl ⟨.of h1, fun l hl => k _ _ (s.fresh hl) (Ext.fresh hl) (rep_newT s hl h2)⟩⟩
    | tup ys =>
      cases h
      obtain ⟨p, ws, rfl, h1, hb, h2⟩ := repR_tup rr
      exact ⟨p, ws, rfl, .inr ⟨.of h1, k H _ s Ext.refl (.tup h1 hb h2)⟩⟩
    | _ => cases h
  · cases h
def listF : FA := fun S xs => match xs with
  | [x] => (match look S x with
    | .lst ys => some (.lst ys)
    | .tup ys => some (.lst ys)
    | _ => none)
  | _ => none
def rLstC (K : PySem.W.Frag) : List V → Hp → VK → Prop := fun xs H Q => ∃ p ys, xs = [.ref p] ∧ (SqL K H p ys ∨ SqT K H p ys) ∧ ∀ l, H l = none → Q (.ref l) (upd H l (.lst ys))
theorem s_list : OpAN X cl (rLstC X.K) listF := fun W ω μ S H xs z vs Q s r h k => by
  unfold listF at h
  split at h
  · obtain ⟨v, rfl, rv⟩ := repsL1 r
    have rr := repR_of s rv
    revert h rr
    generalize look S _ = x'
    intro h rr
    cases x' with
    | lst ys =>
      cases h
      obtain ⟨p, ws, rfl, h1, h2⟩ := repR_lst rr
      exact ⟨p, ws, rfl, .inl (.of h1), fun l hl => k l _ hl (.lst h2)⟩
    | tup ys =>
      cases h
      obtain ⟨p, ws, rfl, h1, _, h2⟩ := repR_tup rr
      exact ⟨p, ws, rfl, .inr (.of h1), fun l hl => k l _ hl (.lst h2)⟩
    | _ => cases h
  · cases h
/-- lists of bools, of ints -/
def bools : List Vl → Option (List Bool)
  | [] => some []
  | .bl b :: xs => (bools xs).map (b :: ·)
  | _ => none
def nums : List Vl → Option (List Int)
  | [] => some []
  | .int b :: xs => (nums xs).map (b :: ·)
  | _ => none
theorem bools_rep {K : PySem.W.Frag} {B : Addr → Prop} {μ : List Addr} {H : Hp} : ∀ {xs : List Vl} {vs : List V} {bs : List Bool}, Reps K cl B μ H xs vs → bools xs = some bs → vs = bs.map V.bl
  | _, _, _, .nil, h => by cases h; rfl
  | _, _, bs, .cons r rs, h => by
    cases r with
    | bl b =>
      obtain ⟨cs, h1, rfl⟩ := Option.map_eq_some_iff.mp h
      rw [bools_rep rs h1, List.map_cons]
    | _ => cases h
theorem nums_rep {K : PySem.W.Frag} {B : Addr → Prop} {μ : List Addr} {H : Hp} : ∀ {xs : List Vl} {vs : List V} {bs : List Int}, Reps K cl B μ H xs vs → nums xs = some bs → vs = bs.map V.int
  | _, _, _, .nil, h => by cases h; rfl
  | _, _, bs, .cons r rs, h => by
    cases r with
    | int b =>
      obtain ⟨cs, h1, rfl⟩ := Option.map_eq_some_iff.mp h
      rw [nums_rep rs h1, List.map_cons]
    | _ => cases h
def allF : FA := fun S xs => match xs with
  | [x] => (match look S x with
    | .lst ys => (bools ys).map fun bs => .bl (bs.all id)
    | _ => none)
  | _ => none
def anyF : FA := fun S xs => match xs with
  | [x] => (match look S x with
    | .lst ys => (bools ys).map fun bs => .bl (bs.any id)
    | _ => none)
  | _ => none
def sumF : FA := fun S xs => match xs with
  | [x] => (match look S x with
    | .lst ys => (nums ys).map fun bs => .int bs.sum
    | _ => none)
  | _ => none
theorem s_all : OpA X cl (rAll X.K) allF := fun W ω μ S H xs z vs Q s r h k => by
  unfold allF at h
  split at h
  · obtain ⟨v, rfl, rv⟩ := repsL1 r
    have rr := repR_of s rv
    revert h rr
    generalize look S _ = x'
    intro h rr
    cases x' with
    | lst ys =>
      obtain ⟨bs, h1, rfl⟩ := Option.map_eq_some_iff.mp h
      obtain ⟨p, ws, rfl, g1, g2⟩ := repR_lst rr
      rw [bools_rep g2 h1] at g1
      exact ⟨p, bs, rfl, .of g1, k H _ s Ext.refl (.bl _)⟩
    | _ => cases h
  · cases h
theorem s_any : OpA X cl (rAny X.K) anyF := fun W ω μ S H xs z vs Q s r h k => by
  unfold anyF at h
  split at h
  · obtain ⟨v, rfl, rv⟩ := repsL1 r
    have rr := repR_of s rv
    revert h rr
    generalize look S _ = x'
    intro h rr
    cases x' with
    | lst ys =>
      obtain ⟨bs, h1, rfl⟩ := Option.map_eq_some_iff.mp h
      obtain ⟨p, ws, rfl, g1, g2⟩ := repR_lst rr
      rw [bools_rep g2 h1] at g1
      exact ⟨p, bs, rfl, .of g1, k H _ s Ext.refl (.bl _)⟩
    | _ => cases h
  · cases h
theorem s_sum : OpA X cl (rSum X.K) sumF := fun W ω μ S H xs z vs Q s r h k => by
  unfold sumF at h
  split at h
  · obtain ⟨v, rfl, rv⟩ := repsL1 r
    have rr := repR_of s rv
    revert h rr
    generalize look S _ = x'
    intro h rr
    cases x' with
    | lst ys =>
      obtain ⟨bs, h1, rfl⟩ := Option.map_eq_some_iff.mp h
      obtain ⟨p, ws, rfl, g1, g2⟩ := repR_lst rr
      rw [nums_rep g2 h1] at g1
      exact ⟨p, bs, rfl, .of g1, k H _ s Ext.refl (.int _)⟩
    | _ => cases h
  · cases h
end
end Dm

set_option Elab.async false
set_option linter.all false
set_option maxRecDepth 100000
set_option autoImplicit false
set_option maxHeartbeats 1000000
/-! DmC: isinstance, dict(pairs), append, clear, stores. -/
namespace Dm
open PySem PySem.Spec L2
inductive Ty where
  | non | bool | int | str | tup | lst | dic
  deriving DecidableEq
def Ty.nm : Ty → String
  | .non => "NoneType" | .bool => "bool" | .int => "int" | .str => "str" | .tup => "tuple" | .lst => "list" | .dic => "dict"
def isaB (a b : Ty) : Bool := match a, b with
  | .bool, .int => true
  | a, b => decide (a = b)
theorem isa_kit (a b : Ty) : kitB a.nm b.nm = some (isaB a b) := by cases a <;> cases b <;> decide +kernel
def tyOf (S : Sto) (x : Vl) : Option Ty := match look S x with
  | .non => some .non
  | .bl _ => some .bool
  | .int _ => some .int
  | .str _ => some .str
  | .tup _ => some .tup
  | .ftp _ => some .tup
  | .lst _ => some .lst
  | .dk _ _ => some .dic
  | .dt _ _ => some .dic
  | _ => none
theorem ty_rep {K : PySem.W.Frag} {cl : Cl} {W : Addr → Prop} {ω : List (Option Addr)} {μ : List Addr} {S : Sto} {H : Hp} {x : Vl} {v : V} {t : Ty} (s : Sim K cl (Wo W ω) μ S H) (r : RepL K cl W ω μ H x v) (h : tyOf S x = some t) : TyX K H v (.type t.nm) := by
  have rr := repR_of s r
  unfold tyOf at h
  revert h rr
  generalize look S x = y
  intro h rr
  cases y <;> cases h
  case ftp =>
    rcases rr with rr | ⟨a, e, rr⟩
    · cases rr with
      | ftp q _ _ _ => exact .fTuple q
    · cases rr
  all_goals
    refine .base ?_
    rcases rr with rr | ⟨a, e, rr⟩
    · cases rr
      first
        | exact .non
        | exact .bl _
        | exact .int _
        | exact .str _
        | (rename_i q _ _; exact .tup q)
        | (rename_i q _ _; exact .lst q)
        | (rename_i q _ _ _; exact .dK q)
        | (rename_i q _ _ _; exact .dT q)
    · cases rr
      all_goals
        subst e
        first
          | (rename_i q _; exact .lst q)
          | (rename_i q _ _; exact .dK q)
          | (rename_i q _ _; exact .dT q)
def isiM (ts : List Ty) (m : EM) : EM := fun env S => (m env S).bind fun x S1 => match tyOf S1 x with
  | some a => .ok (.bl (ts.any (isaB a))) S1
  | none => .bad
section
variable {X : Cx} {cl : Cl} {E : XK} {e : Expr} {m : EM} {pos : Pos}
theorem de_isi1 {t : Ty} {c : Expr} {p : Pos} (he : PE X e (tL X.K cl E m)) (hc : PE X c (tC (.ty t.nm))) (hg : Gl X "isinstance") (hm : X.mg "isinstance" = none) (hv : bootBuiltins "isinstance" = some (.builtin "isinstance"))
    (hs : starEach [e, c] X.env = (false, eval e X.env) :: starEach [c] X.env := by rfl) (hs2 : starEach [c] X.env = [(false, eval c X.env)] := by rfl) (hpl : (backTo pos (starEach [c] X.env)).any (·.1) = false := by rfl) : PE X (.Call (.Name "isinstance" p) [e, c] [] pos) (tD X.K cl E (isiM [t] m)) :=
  (pe_callB call_isi hg hm hv (pa_cons he (pa_cons hc pa_nil hs2) hs) (by decide) (by decide) hs hpl).imp fun σ H Q ⟨W, ω, μ, S, env, rl, q⟩ => ⟨W, ω, μ, S, env, rl, q.bind.mono fun x S1 μ1 H1 _ s1 e1 q1 v rv => by
    cases hz : tyOf S1 x with
    | none => rw [hz] at q1; exact q1.elim
    | some a =>
      rw [hz] at q1
      refine ⟨v, .ty t.nm, .type a.nm, .type t.nm, isaB a t, rfl, .ty _, ty_rep s1 rv hz, kit_ty (isa_kit a t), ?_⟩
      have q2 := q1 μ1 H1 s1 Ext.refl (.bl (isaB a t))
      simp only [List.any_cons, List.any_nil, Bool.or_false] at q2
      exact q2 (.bl _)⟩
theorem de_isi2 {t t2 : Ty} {c c2 : Expr} {j : Nat} {p tp : Pos} (he : PE X e (tL X.K cl E m)) (hc : PE X c (tC (.ty t.nm))) (hc2 : PE X c2 (tC (.ty t2.nm))) (hg : Gl X "isinstance") (hm : X.mg "isinstance" = none) (hv : bootBuiltins "isinstance" = some (.builtin "isinstance"))
    (hs : starEach [e, .Tuple [c, c2] j tp] X.env = (false, eval e X.env) :: starEach [.Tuple [c, c2] j tp] X.env := by rfl) (hs2 : starEach [.Tuple [c, c2] j tp] X.env = [(false, eval (.Tuple [c, c2] j tp) X.env)] := by rfl) (hpl : (backTo pos (starEach [.Tuple [c, c2] j tp] X.env)).any (·.1) = false := by rfl)
    (hs3 : starEach [c, c2] X.env = (false, eval c X.env) :: starEach [c2] X.env := by rfl) (hs4 : starEach [c2] X.env = [(false, eval c2 X.env)] := by rfl) : PE X (.Call (.Name "isinstance" p) [e, .Tuple [c, c2] j tp] [] pos) (tD X.K cl E (isiM [t, t2] m)) :=
  (pe_callB call_isiT hg hm hv (pa_cons he (pa_cons (pe_tup (pa_cons hc (pa_cons hc2 pa_nil hs4) hs3)) pa_nil hs2) hs) (by decide) (by decide) hs hpl).imp fun σ H Q ⟨W, ω, μ, S, env, rl, q⟩ => ⟨W, ω, μ, S, env, rl, q.bind.mono fun x S1 μ1 H1 _ s1 e1 q1 v rv => by
    refine ⟨by show 2 ≤ sizeLine; decide, fun T hT => ?_⟩
    cases hz : tyOf S1 x with
    | none => rw [hz] at q1; exact q1.elim
    | some a =>
      rw [hz] at q1
      have sf := s1.fresh (o := .tup [V.ty t.nm, V.ty t2.nm]) hT
      have rf := RepL.mono s1 (Ext.fresh (o := .tup [V.ty t.nm, V.ty t2.nm]) hT) rv
      refine ⟨v, T, [V.ty t.nm, V.ty t2.nm], .type a.nm, [.type t.nm, .type t2.nm], [t, t2].any (isaB a), rfl, upd_same, .cons (.ty _) (.cons (.ty _) .nil), ty_rep sf rf hz, ?_, q1 μ1 _ sf (Ext.fresh hT) _ (.bl _)⟩
      refine kitAny_cons (kit_ty (isa_kit a t)) (fun h => ?_) fun h => by simp [h]
      refine kitAny_cons (kit_ty (isa_kit a t2)) (fun h2 => ?_) fun h2 => by simp [h2]
      rw [kitAny_nil]
      simp [h, h2]⟩
/-! ### dict(pairs) -/
def pairsOf : List Vl → Option (List (Key × Vl))
  | [] => some []
  | .tup [k, x] :: r => match keyV k, pairsOf r with
    | some q, some ps => some ((q, x) :: ps)
    | _, _ => none
  | _ => none
def replV (k : Key) (x : Vl) : List Key → List Vl → List Vl
  | q :: ks, y :: xs => (if q = k then x else y) :: replV k x ks xs
  | _, _ => []
def putV (ks : List Key) (xs : List Vl) (k : Key) (x : Vl) : List Key × List Vl := if (ks.any fun q => decide (q = k)) = true then (ks, replV k x ks xs) else (ks ++ [k], xs ++ [x])
def mergeV : List (Key × Vl) → List Key × List Vl → List Key × List Vl
  | [], d => d
  | (k, x) :: ps, d => mergeV ps (putV d.1 d.2 k x)
section
variable {K : PySem.W.Frag} {B : Addr → Prop} {μ : List Addr} {H : Hp}
theorem any_mem (k : Key) (kvs : List (Key × V)) : (kvs.any fun kv => decide (kv.1 = k)) = (kvs.map (·.1)).any fun q => decide (q = k) := by
  rw [List.any_map]
  rfl
theorem repl_ok {k : Key} {x : Vl} {v : V} (rx : Rep K cl B μ H x v) : ∀ {kvs : List (Key × V)} {xs : List Vl}, Reps K cl B μ H xs (kvs.map (·.2)) →
    (kvs.map fun kv => if kv.1 = k then (kv.1, v) else kv).map (·.1) = kvs.map (·.1) ∧ Reps K cl B μ H (replV k x (kvs.map (·.1)) xs) ((kvs.map fun kv => if kv.1 = k then (kv.1, v) else kv).map (·.2))
  | [], _, r => by cases r; exact ⟨rfl, .nil⟩
  | (q, w) :: kvs, _, r => by
    cases r with
    | cons r rs =>
      obtain ⟨i1, i2⟩ := repl_ok (k := k) rx rs
      by_cases hq : q = k
      · simp only [List.map_cons, replV, if_pos hq]
        exact ⟨by rw [i1], .cons rx i2⟩
      · simp only [List.map_cons, replV, if_neg hq]
        exact ⟨by rw [i1], .cons r i2⟩
theorem putV_ok {k : Key} {x : Vl} {v : V} (rx : Rep K cl B μ H x v) {kvs : List (Key × V)} {xs : List Vl} (r : Reps K cl B μ H xs (kvs.map (·.2))) :
    (putK kvs k v).map (·.1) = (putV (kvs.map (·.1)) xs k x).1 ∧ Reps K cl B μ H (putV (kvs.map (·.1)) xs k x).2 ((putK kvs k v).map (·.2)) := by
  unfold putK putV
  rw [any_mem]
  by_cases h : ((kvs.map (·.1)).any fun q => decide (q = k)) = true
  · rw [if_pos h, if_pos h]
    exact repl_ok rx r
  · rw [if_neg h, if_neg h]
    exact ⟨by simp, by rw [List.map_append]; exact r.snoc rx⟩
theorem merge_ok : ∀ {ps : List (Key × Vl)} {kws : List (Key × V)} {kvs : List (Key × V)} {d : List Key × List Vl}, kws.map (·.1) = ps.map (·.1) → Reps K cl B μ H (ps.map (·.2)) (kws.map (·.2)) → kvs.map (·.1) = d.1 → Reps K cl B μ H d.2 (kvs.map (·.2)) →
    (mergeK kvs kws).map (·.1) = (mergeV ps d).1 ∧ Reps K cl B μ H (mergeV ps d).2 ((mergeK kvs kws).map (·.2))
  | [], [], kvs, d, _, _, e, r => ⟨e, r⟩
  | [], _ :: _, _, _, h, _, _, _ => by cases h
  | _ :: _, [], _, _, h, _, _, _ => by cases h
  | (k, x) :: ps, (k2, v) :: kws, kvs, (ks, xs), h, rr, e, r => by
    rw [List.map_cons, List.map_cons] at h
    injection h with h1 h2
    have h1' : k2 = k := h1
    subst h1'
    cases rr with
    | cons ra rs =>
      have e' : kvs.map (·.1) = ks := e
      subst e'
      obtain ⟨p1, p2⟩ := putV_ok (k := k2) ra r
      exact merge_ok (ps := ps) (kws := kws) (kvs := putK kvs k2 v) (d := putV (kvs.map (·.1)) xs k2 x) h2 rs p1 p2
end
def dictF : FA := fun S xs => match xs with
  | [x] => (match look S x with
    | .lst ys => (pairsOf ys).map fun ps => let d := mergeV ps ([], []); .dk d.1 d.2
    | _ => none)
  | _ => none
theorem key_repS {K : PySem.W.Frag} {B : Addr → Prop} {μ : List Addr} {H : Hp} {x : Vl} {v : V} {k : Key} (r : Rep K cl B μ H x v) (h : keyV x = some k) : v = kV k := by
  cases r <;> cases h <;> rfl
theorem pairs_rep {K : PySem.W.Frag} {B : Addr → Prop} {μ : List Addr} {H : Hp} : ∀ {ys : List Vl} {vs : List V} {ps : List (Key × Vl)}, Reps K cl B μ H ys vs → pairsOf ys = some ps →
    ∃ (as : List Addr) (kws : List (Key × V)), vs = as.map V.ref ∧ Paired (fun p kv => SqT K H p [kV kv.1, kv.2]) as kws ∧ kws.map (·.1) = ps.map (·.1) ∧ Reps K cl B μ H (ps.map (·.2)) (kws.map (·.2))
  | _, _, _, .nil, h => by
    cases h
    exact ⟨[], [], rfl, .nil, rfl, .nil⟩
  | _, _, ps, .cons (x := x) r rs, h => by
    unfold pairsOf at h
    split at h
    · cases ‹_ :: _ = []›
    · rename_i k y r' hx
      injection hx with hx1 hx2
      subst hx1 hx2
      split at h
      · rename_i q ps' hk hp
        cases h
        obtain ⟨as, kws, e1, e2, e3, e4⟩ := pairs_rep rs hp
        cases r with
        | tup h1 h2 h3 =>
          cases h3 with
          | cons rk r3 =>
            cases r3 with
            | cons ry r4 =>
              cases r4
              have ek := key_repS rk hk
              subst ek
              refine ⟨_ :: as, (q, _) :: kws, by rw [List.map_cons, e1], .cons (.of h1) e2, by rw [List.map_cons, List.map_cons, e3], .cons ry e4⟩
      · cases h
    · cases h
def rDictP (K : PySem.W.Frag) : List V → Hp → VK → Prop := fun xs H Q => ∃ (a : Addr) (ps : List Addr) (kvs : List (Key × V)), xs = [.ref a] ∧ SqL K H a (ps.map V.ref) ∧ Paired (fun p kv => SqT K H p [kV kv.1, kv.2]) ps kvs ∧
    ∀ p, H p = none → Q (.ref p) (upd H p (.dK (mergeK [] kvs)))
theorem s_dict : OpAN X cl (rDictP X.K) dictF := fun W ω μ S H xs z vs Q s r h k => by
  unfold dictF at h
  split at h
  · obtain ⟨v, rfl, rv⟩ := repsL1 r
    have rr := repR_of s rv
    revert h rr
    generalize look S _ = x'
    intro h rr
    cases x' with
    | lst ys =>
      obtain ⟨ps, h1, rfl⟩ := Option.map_eq_some_iff.mp h
      obtain ⟨p, ws, rfl, g1, g2⟩ := repR_lst rr
      obtain ⟨as, kws, e1, e2, e3, e4⟩ := pairs_rep g2 h1
      subst e1
      obtain ⟨m1, m2⟩ := merge_ok (kvs := []) (d := ([], [])) e3 e4 rfl .nil
      exact ⟨p, as, kws, rfl, .of g1, e2, fun t ht => k t _ ht (.dk m1 m2)⟩
    | _ => cases h
  · cases h
/-! ### an own list, changed -/
def appO (i : Nat) (m : EM) : SM := fun env S => match env[i]? with
  | some (.ow (.lst xs)) => (m env S).bind fun x S1 => if xs.length < 16777216 then .ok (.nx (env.set i (.ow (.lst (xs ++ [x]))))) S1 else .bad
  | _ => .bad
variable {st : Stmt} {i : Nat}
theorem own_lst {K : PySem.W.Frag} {W : Addr → Prop} {ω : List (Option Addr)} {μ : List Addr} {S : Sto} {env : List Sv} {σ : St} {H : Hp} {xs : List Vl} (rl : Rl K cl W ω μ S env σ H) (he : env[i]? = some (.ow (.lst xs))) : ∃ a vs, ω[i]? = some (some a) ∧ σ[i]? = some (some (.ref a)) ∧ H a = some (.lst vs) ∧ Reps K cl (Bn (Wo W ω) μ) μ H xs vs := by
  obtain ⟨o, s, h1, h2, a, h3, h4, h5⟩ := rl.slot he
  subst h4
  subst h3
  cases h5 with
  | lst g1 g2 => exact ⟨a, _, h1, h2, g1, g2⟩
theorem ds_appO {te : TE} (h : PS X st (tDrop (tBM X.K "list" rAppend (tVar i) (tCons te tNil)))) (hi : ∀ σ H Q, tD X.K cl E m σ H Q → te σ H Q) : PS X st (tS X.K cl E (appO i m)) := h.imp fun D σ H ⟨W, ω, μ, S, env, rl, q⟩ => by
  unfold appO at q
  split at q
  · rename_i xs he
    obtain ⟨a, vs, h1, h2, h3, h4⟩ := own_lst rl he
    refine ⟨.ref a, h2, .inl ⟨rfl, vs, .of h3⟩, hi _ _ _ ⟨W, ω, μ, S, env, rl, q.ofG.mono fun x S1 μ1 H1 _ s1 e1 q1 v rv => ?_⟩⟩
    have r1 := rl.ext e1 s1
    obtain ⟨a', ws, g1, g2, g3, g4⟩ := own_lst r1 he
    rw [h1] at g1
    cases g1
    split at q1
    · obtain ⟨r2, e2⟩ := r1.upd he h1 (.lst (g4.snoc rv))
      exact ⟨a, ws, v, rfl, rfl, g3, by rw [sizeLine_eq, ← g4.length]; assumption, q1 ω μ1 σ _ r2 e2⟩
    · exact q1.elim
  · exact q.elim
def clrO (i : Nat) : SM := fun env S => match env[i]? with
  | some (.ow (.lst _)) => .ok (.nx (env.set i (.ow (.lst [])))) S
  | _ => .bad
theorem ds_clrO (h : PS X st (tDrop (tBM0 X.K "list" rClear (tVar i)))) : PS X st (tS X.K cl E (clrO i)) := h.imp fun D σ H ⟨W, ω, μ, S, env, rl, q⟩ => by
  unfold clrO at q
  split at q
  · rename_i xs he
    obtain ⟨a, vs, h1, h2, h3, h4⟩ := own_lst rl he
    obtain ⟨r2, e2⟩ := rl.upd he h1 (y := .lst []) (o := .lst []) (.lst .nil)
    exact ⟨.ref a, h2, .inl ⟨rfl, vs, .of h3⟩, a, vs, rfl, rfl, h3, q ω μ σ _ r2 e2⟩
  · exact q.elim
/-! ### a shared list's place stored: o[i] = e -/
def setR (mo mi mv : EM) : SM := fun env S => (mv env S).bind fun x S1 => (mo env S1).bind fun o S2 => (mi env S2).bind fun j S3 => match o, j with
  | .ref n, .int k => (match S3[n]? with
    | some (.lst xs) => (match ixN xs.length k with
      | some t => .ok (.nx env) (S3.set n (.lst (xs.set t x)))
      | none => .bad)
    | _ => .bad)
  | _, _ => .bad
theorem ds_setR {mo mi mv : EM} {tv to ti : TE} (h : PS X st (tAsg tv (gSub to ti rSetL))) (hv : ∀ σ H Q, tD X.K cl E mv σ H Q → tv σ H Q) (ho : ∀ σ H Q, tD X.K cl E mo σ H Q → to σ H Q) (hi : ∀ σ H Q, tD X.K cl E mi σ H Q → ti σ H Q) : PS X st (tS X.K cl E (setR mo mi mv)) := h.imp fun D σ H ⟨W, ω, μ, S, env, rl, q⟩ => by
  refine hv _ _ _ ⟨W, ω, μ, S, env, rl, q.ofG.mono fun x S1 μ1 H1 _ s1 e1 q1 v rv => ?_⟩
  refine ho _ _ _ ⟨W, ω, μ1, S1, env, rl.ext e1 s1, q1.ofG.mono fun o S2 μ2 H2 _ s2 e2 q2 w rw' => ?_⟩
  refine hi _ _ _ ⟨W, ω, μ2, S2, env, (rl.ext e1 s1).ext e2 s2, q2.ofG.mono fun j S3 μ3 H3 _ s3 e3 q3 u ru => ?_⟩
  cases o with
  | ref n =>
    cases j with
    | int k =>
      dsimp only at q3
      cases hx : S3[n]? with
      | none => rw [hx] at q3; exact q3.elim
      | some y =>
        rw [hx] at q3
        cases y with
        | lst xs =>
          dsimp only at q3
          cases ht : ixN xs.length k with
          | none => rw [ht] at q3; exact q3.elim
          | some t =>
            rw [ht] at q3
            obtain ⟨a, g1, g2⟩ := s3.obs n _ hx
            cases g2 with
            | @lst _ vs g2 g3 =>
              have rw3 := rw'.mono e3.kp
              cases rw3 with
              | ref hn =>
                rw [g1] at hn
                cases hn
                cases ru
                obtain ⟨s4, e4⟩ := s3.upd g1 (y := .lst (xs.set t x)) (o := .lst (vs.set t v)) (.lst (Reps.set ((rv.mono e2.kp).mono e3.kp) t g3))
                exact ⟨a, vs, k, t, rfl, rfl, g2, by rw [← g3.length]; exact ht, q3 ω μ3 σ _ ((((rl.ext e1 s1).ext e2 s2).ext e3 s3).ext e4 s4) e4.s⟩
        | _ => exact q3.elim
    | _ => exact q3.elim
  | _ => exact q3.elim
end
end Dm

set_option Elab.async false
set_option linter.all false
set_option maxRecDepth 100000
set_option autoImplicit false
set_option maxHeartbeats 1000000
/-! DmD: instances: fields, __init__, making, methods, == of one's own. -/
namespace Dm
open PySem PySem.Spec L2
/-! ### fields -/
def fGet : List Str → List Vl → Str → Option Vl
  | n :: ns, x :: xs, f => if f = n then some x else fGet ns xs f
  | _, _, _ => none
def fPut : List Str → List Vl → Str → Vl → List Str × List Vl
  | n :: ns, y :: xs, f, x => if n = f then (n :: ns, x :: xs) else ((n :: (fPut ns xs f x).1), (y :: (fPut ns xs f x).2))
  | _, _, f, x => ([f], [x])
section
variable {K : PySem.W.Frag} {cl : Cl} {B : Addr → Prop} {μ : List Addr} {H : Hp}
theorem fGet_ok {f : Str} : ∀ {fs : List (Str × V)} {xs : List Vl}, Reps K cl B μ H xs (fs.map (·.2)) → (∀ x, fGet (fs.map (·.1)) xs f = some x → ∃ v, fs.lookup f = some v ∧ Rep K cl B μ H x v) ∧ (fGet (fs.map (·.1)) xs f = none → fs.lookup f = none)
  | [], xs, r => by
    cases r
    refine ⟨?_, fun _ => rfl⟩
    intro x h
    simp only [List.map_nil, fGet] at h
    cases h
  | (n, w) :: fs, _, r => by
    cases r with
    | cons r rs =>
      obtain ⟨i1, i2⟩ := fGet_ok (f := f) rs
      by_cases h : f = n
      · refine ⟨fun x q => ?_, fun q => ?_⟩
        · simp only [List.map_cons, fGet, if_pos h] at q
          cases q
          exact ⟨w, by simp [List.lookup, h], r⟩
        · simp only [List.map_cons, fGet, if_pos h] at q
          cases q
      · have hb : (f == n) = false := by simpa using h
        refine ⟨fun x q => ?_, fun q => ?_⟩
        · simp only [List.map_cons, fGet, if_neg h] at q
          obtain ⟨v, e1, e2⟩ := i1 x q
          exact ⟨v, by simp [List.lookup, hb, e1], e2⟩
        · simp only [List.map_cons, fGet, if_neg h] at q
          simp [List.lookup, hb, i2 q]
theorem fPut_ok {f : Str} {x : Vl} {v : V} (rx : Rep K cl B μ H x v) : ∀ {fs : List (Str × V)} {xs : List Vl}, Reps K cl B μ H xs (fs.map (·.2)) → (putF f v fs).map (·.1) = (fPut (fs.map (·.1)) xs f x).1 ∧ Reps K cl B μ H (fPut (fs.map (·.1)) xs f x).2 ((putF f v fs).map (·.2))
  | [], xs, r => by
    cases r
    exact ⟨rfl, .cons rx .nil⟩
  | (n, w) :: fs, _, r => by
    cases r with
    | cons r rs =>
      obtain ⟨i1, i2⟩ := fPut_ok rx rs
      unfold putF
      by_cases h : n = f
      · simp only [List.map_cons, fPut, if_pos h]
        exact ⟨by first | rfl | simp [h], .cons rx rs⟩
      · simp only [List.map_cons, fPut, if_neg h]
        exact ⟨by rw [i1], .cons r i2⟩
end
section
variable {X : Cx} {cl : Cl} {E : XK} {e : Expr} {m : EM} {pos : Pos} {st : Stmt} {i c : Nat} {f : Str}
/-- e.f, e an instance of the class number c -/
def fldM (c : Nat) (f : Str) (m : EM) : EM := fun env S => (m env S).bind fun x S1 => match look S1 x with
  | .ins d ns xs => if d = c then (match fGet ns xs f with | some y => .ok y S1 | none => .bad) else .bad
  | _ => .bad
theorem de_fld (he : PE X e (tL X.K cl E m)) (hc : Cls X.K (cl c)) (hn : NoAttr X.K (cl c) f) (hb : attributeBase e f X.env (eval e X.env) = eval e X.env := by rfl) : PE X (.Attribute e f pos) (tD X.K cl E (fldM c f m)) := (pe_fld he hb).imp fun σ H Q ⟨W, ω, μ, S, env, rl, q⟩ =>
  ⟨W, ω, μ, S, env, rl, q.bind.mono fun x S1 μ1 H1 _ s1 e1 q1 v rv => by
    have rr := repR_of s1 rv
    revert q1 rr
    generalize look S1 x = y
    intro q1 rr
    cases y with
    | ins d ns xs =>
      dsimp only at q1
      by_cases hd : d = c
      · rw [if_pos hd] at q1
        subst hd
        obtain ⟨a, dx, fs, e2, h1, h2, h3⟩ := repR_ins rr
        subst h2
        cases hg : fGet (fs.map (·.1)) xs f with
        | none => rw [hg] at q1; exact q1.elim
        | some w =>
          rw [hg] at q1
          obtain ⟨u, g1, g2⟩ := (fGet_ok h3).1 w hg
          exact ⟨a, cl d, dx, fs, u, e2, h1, hc, hn, g1, q1 μ1 H1 s1 Ext.refl u g2⟩
      · rw [if_neg hd] at q1
        exact q1.elim
    | _ => exact q1.elim⟩
/-- self.f = e, in __init__ -/
def sfS (c : Nat) (f : Str) (i : Nat) (m : EM) : SM := fun env S => (m env S).bind fun x S1 => match env[i]? with
  | some (.sf a (.ins d ns xs)) => if d = c ∧ ns.length < 1000 then .ok (.nx (env.set i (.sf a (.ins c (fPut ns xs f x).1 (fPut ns xs f x).2)))) S1 else .bad
  | _ => .bad
theorem ds_sf {tv : TE} (h : PS X st (sFld X.K (tVar i) tv f)) (hi : ∀ σ H Q, tD X.K cl E m σ H Q → tv σ H Q) (hc : Cls X.K (cl c)) (hn : NoAttr X.K (cl c) f) : PS X st (tS X.K cl E (sfS c f i m)) := h.imp fun D σ H ⟨W, ω, μ, S, env, rl, q⟩ =>
  hi _ _ _ ⟨W, ω, μ, S, env, rl, q.ofG.mono fun x S1 μ1 H1 _ s1 e1 q1 v rv => by
    have r1 := rl.ext e1 s1
    split at q1
    · rename_i a d ns xs he
      split at q1
      · rename_i hd
        obtain ⟨hd, hl⟩ := hd
        subst hd
        obtain ⟨o, s, h1, h2, h3, h4, h5⟩ := r1.slot he
        subst h3
        subst h4
        cases h5 with
        | @ins _ _ _ dx fs h5 h6 h7 =>
          subst h6
          obtain ⟨p1, p2⟩ := fPut_ok (f := f) rv h7
          obtain ⟨r2, e2⟩ := r1.updS he (y := .ins d (fPut (fs.map (·.1)) xs f x).1 (fPut (fs.map (·.1)) xs f x).2) (o := .ins (cl d) dx (putF f v fs)) (.ins p1 p2)
          exact ⟨.ref a, h2, a, cl d, dx, fs, rfl, h5, hc, hn, by simpa using hl, q1 ω μ1 σ _ r2 e2⟩
      · exact q1.elim
    · exact q1.elim⟩
/-! ### __init__ -/
def startI (N c : Nat) (a : Addr) (args : List Vl) : List Sv := .sf a (.ins c [] []) :: (args.map .v ++ List.replicate (N - (args.length + 1)) .un)
def selfOf (a : Addr) : List Sv → Option Vl
  | .sf b x :: _ => if b = a then some x else none
  | _ => none
def runI (N c : Nat) (b : SM) (a : Addr) (args : List Vl) (S : Sto) : Res Vl := (b (startI N c a args) S).bind fun fl S' => match fl with
  | .nx env => (match selfOf a env with
    | some x => .ok x S'
    | none => .bad)
  | _ => .bad
def spI (K : PySem.W.Frag) (cl : Cl) (c n : Nat) (f : Addr → List Vl → Sto → Res Vl) : Sp := fun vs H Q E => ∃ W μ S args a dx vr, vs = .ref a :: vr ∧ Sim K cl (Wa W a) μ S H ∧ ¬ W a ∧ H a = some (.ins (cl c) dx []) ∧ Reps K cl (Bn (Wa W a) μ) μ H args vr ∧ args.length = n ∧
  (match f a args S with
    | .ok x S' => ∀ μ' H', Sim K cl (Wa W a) μ' S' H' → ExtS [some a] μ H [some a] μ' H' → At K cl (Bn (Wa W a) μ') μ' H' a x → Q .non H'
    | .exc d ns xs S' => ∀ μ' H' p, Sim K cl W μ' S' H' → ExtS [some a] μ H [] μ' H' → XFs K cl (Bn W μ') μ' H' p ns xs → E (.ref (cl d)) (some p) H'
    | .bad => False)
theorem spI_len {K : PySem.W.Frag} {n : Nat} {g : Addr → List Vl → Sto → Res Vl} {vs : List V} {H : Hp} {Q : VK} {E : XK} (h : spI K cl c n g vs H Q E) : vs.length = n + 1 := by
  obtain ⟨W, μ, S, args, a, dx, vr, rfl, _, _, _, r, l, _⟩ := h
  rw [List.length_cons, ← r.length, l]
theorem init_ok {K : PySem.W.Frag} {N : List Str} {b : SM} {n : Nat} {vs : List V} {H : Hp} {Q : VK} {E : XK} (h : spI K cl c n (runI N.length c b) vs H Q E) : tS K cl E b { nx := fun _ H' => Q .non H', rt := Q } (L2.start N vs) H := by
  obtain ⟨W, μ, S, args, a, dx, vr, rfl, s, nw, ha, r, hl, q⟩ := h
  have no : ∀ {n : Nat} {b : Addr}, some b ∉ List.replicate n (none : Option Addr) := fun z => nomatch (List.eq_of_mem_replicate z)
  let M := (L2.start N (.ref a :: vr)).length - 1
  have hM : (L2.start N (V.ref a :: vr)).length = M + 1 := by simp [L2.start, M]
  have memo : ∀ {b : Addr}, some b ∈ (some a :: List.replicate M none) ↔ b = a := fun {b} => by
    constructor
    · intro z
      rcases List.mem_cons.mp z with z | z
      · exact Option.some.inj z
      · exact (no z).elim
    · intro z
      rw [z]
      exact List.mem_cons_self ..
  have sub1 : ∀ b, Wo W (some a :: List.replicate M none) b → Wa W a b := fun b z => z.elim .inl fun z => .inr (memo.mp z)
  have e1 : ∀ {ω' : List (Option Addr)} {μ' : List Addr} {H' : Hp}, ExtS (some a :: List.replicate M none) μ H ω' μ' H' → ∀ ω'' : List (Option Addr), (∀ b, some b ∈ ω'' → b = a ∨ some b ∈ ω') → ExtS [some a] μ H ω'' μ' H' := fun e ω'' hw => ⟨fun b o q n n' => e.keep b o q n fun z => n' (by rw [memo.mp z]; simp), e.dom, e.pre, fun b z => by
    rcases z with z | z
    · rcases e.new b (.inl z) with z | z | z
      · exact .inl z
      · exact .inr (.inl (by rw [memo.mp z]; simp))
      · exact .inr (.inr z)
    · rcases hw b z with z | z
      · exact .inr (.inl (by rw [z]; simp))
      · rcases e.new b (.inr z) with z | z | z
        · exact .inl z
        · exact .inr (.inl (by rw [memo.mp z]; simp))
        · exact .inr (.inr z)⟩
  have rl : Rl K cl W (some a :: List.replicate M none) μ S (startI N.length c a args) (L2.start N (.ref a :: vr)) H := by
    refine ⟨s.weak sub1, ?_, by rw [hM]; simp, fun i x o t h1 h2 h3 => ?_, fun i j b h1 h2 => ?_, fun b z => by rw [memo.mp z]; exact nw⟩
    · simp [startI, L2.start, r.length]
    · cases i with
      | zero =>
        have h3' : some (some (V.ref a)) = some t := h3
        cases h1
        cases h2
        cases h3'
        exact ⟨rfl, rfl, .ins ha rfl .nil⟩
      | succ i =>
        have ho : o = none := by
          have : (List.replicate M (none : Option Addr))[i]? = some o := by simpa using h2
          exact List.eq_of_mem_replicate (List.mem_of_getElem? this)
        have h1' : (args.map Sv.v ++ List.replicate (N.length - (args.length + 1)) .un)[i]? = some x := by simpa [startI] using h1
        have h3' : (vr.map some ++ List.replicate (N.length - (vr.length + 1)) none)[i]? = some t := by simpa [L2.start] using h3
        by_cases hi : i < args.length
        · rw [List.getElem?_append_left (by simpa using hi), List.getElem?_map] at h1'
          rw [List.getElem?_append_left (by simpa [← r.length] using hi), List.getElem?_map] at h3'
          obtain ⟨y, hy, rfl⟩ := Option.map_eq_some_iff.mp h1'
          obtain ⟨w, hw, rfl⟩ := Option.map_eq_some_iff.mp h3'
          obtain ⟨w', g1, g2⟩ := r.get hy
          rw [hw] at g1
          cases g1
          exact ⟨ho, w, rfl, g2.mono (Kp.weak sub1)⟩
        · rw [List.getElem?_append_right (by simpa using hi), List.getElem?_replicate] at h1'
          split at h1'
          · cases h1'; exact ho
          · cases h1'
    · have z : ∀ l : Nat, (some a :: List.replicate M (none : Option Addr))[l]? = some (some b) → l = 0 := fun l q => by
        cases l with
        | zero => rfl
        | succ l =>
          have : (List.replicate M (none : Option Addr))[l]? = some (some b) := by simpa using q
          exact (no (List.mem_of_getElem? this)).elim
      rw [z i h1, z j h2]
  refine ⟨W, _, μ, S, startI N.length c a args, rl, ?_⟩
  unfold runI at q
  revert q
  generalize b (startI N.length c a args) S = t
  intro q
  cases t with
  | bad => exact q
  | exc d ns xs S' => exact fun μ' H' p s' e' x => q μ' H' p s' (e1 e' [] fun _ z => nomatch z) x
  | ok fl S' =>
    cases fl with
    | nx env =>
      intro ω' μ' σ' H' r' e'
      dsimp only [Res.bind] at q
      cases hs : selfOf a env with
      | none => rw [hs] at q; exact q.elim
      | some x =>
        rw [hs] at q
        have h0 : env[0]? = some (.sf a x) := by
          unfold selfOf at hs
          split at hs
          · split at hs
            · rename_i haa
              cases hs
              rw [haa]
              rfl
            · cases hs
          · cases hs
        obtain ⟨o, s, h1, h2, h3, h4, h5⟩ := r'.slot h0
        subst h3
        have sub3 : ∀ b, Wa W a b → Wo W ω' b := fun b z => z.elim .inl fun z => .inr (by rw [z]; exact List.mem_of_getElem? h1)
        exact q μ' H' (r'.sim.weak sub3) (e1 e' [some a] fun b z => .inl (by simpa using z)) (h5.mono (Kp.weak sub3) fun _ q => q)
    | bk env => exact q.elim
    | ct env => exact q.elim
    | rt x => exact q.elim
end
section
variable {P : Program} {w : World} {K : PySem.W.Frag} {mg : Str → Option Value} {base : Heap}
/-- THE RULE for an __init__ -/
theorem init_fn {cl : Cl} {c : Nat} {x qual : Str} {params : Arguments} {body : List Stmt} {scope : Scope} {dvs : List V} {kws : List (Str × V)} {f : Addr} {fd : FuncData} {N ps : List Str} {k n : Nat} {b : SM} (F : FunD K x qual params body scope dvs kws f fd) (S : FnScope N ps scope) (hn : ps.length = n + 1)
    (h : ∀ (cdv : Value) (A : Around) (outer : List Env) (s : Shared) (H : Hp) (E : XK), Room k (A.deeper (PyProof.Rows.envOfC qual scope s.heap.objs.size f cdv)) → PSs (cxOf (L2.CX P w) P w K mg base N qual scope f cdv A outer s H E) body (tS K cl E b)) :
    FnOk P w K mg base (L2.CX P w) (k + 1) f fd ps (spI K cl c n (runI N.length c b)) :=
  F.ok S (fun vs H Q E h => (spI_len h).trans hn.symm) fun cdv A outer s H vs Q E hr hsp => ⟨_, h cdv A outer s H E hr, init_ok hsp⟩
end
section
variable {X : Cx} {cl : Cl} {E : XK} {mA mK : AM} {c n : Nat} {f : Addr → List Vl → Sto → Res Vl}
/-- C(..): a new instance; f is the class's __init__, whatever the address -/
def makeM (f : Addr → List Vl → Sto → Res Vl) (a : AM) : EM := fun env S => (a env S).bind fun xs S1 => f 0 xs S1
/-- the address does not matter -/
def Blind (f : Addr → List Vl → Sto → Res Vl) : Prop := ∀ a b xs S, f a xs S = f b xs S
theorem make_core (hb : Blind f) {W : Addr → Prop} {ω : List (Option Addr)} {μ : List Addr} {S : Sto} {H : Hp} {Q : VK} {xs : List Vl} {vs : List V} (s : Sim X.K cl (Wo W ω) μ S H) (rs : Reps X.K cl (Bn (Wo W ω) μ) μ H xs vs) (hl : xs.length = n)
    (q : SatG X.K cl (Wo W ω) μ H (f 0 xs S) (fun x S' μ' H' => ∀ a, H a = none → Sim X.K cl (Wa (Wo W ω) a) μ' S' H' → At X.K cl (Bn (Wa (Wo W ω) a) μ') μ' H' a x → Q (.ref a) H') E) (x dx : Addr) (hx : H x = none) (hdx : H dx = none) (hne : dx ≠ x) :
    spI X.K cl c n f (.ref x :: vs) (upd (upd H dx (.own x)) x (.ins (cl c) dx [])) (fun v H2 => v = .non ∧ Q (.ref x) H2) E := by
  have hx2 : upd H dx (HO.own x) x = none := by rw [upd_ne hne.symm]; exact hx
  have s2 : Sim X.K cl (Wa (Wo W ω) x) μ S (upd (upd H dx (.own x)) x (.ins (cl c) dx [])) := (s.fresh hdx).freshBan hx2 fun z => s.tracked (.inl z) hx
  have x2 : ∀ {μ' : List Addr} {H' : Hp} {ω' : List (Option Addr)}, ExtS [some x] μ (upd (upd H dx (.own x)) x (.ins (cl c) dx [])) ω' μ' H' → Ext μ H μ' H' := fun {μ' H' ω'} e => by
    have d1 : ∀ b, H b ≠ none → upd (upd H dx (.own x)) x (.ins (cl c) dx []) b ≠ none := fun b hbn => (Ext.fresh (μ := μ) hx2).dom b ((Ext.fresh (μ := μ) hdx).dom b hbn)
    refine ⟨fun b o hbo n => e.keep b o (by rw [upd_ne (ne_of_none hbo hx), upd_ne (ne_of_none hbo hdx)]; exact hbo) n fun z => ?_, fun b hbn => e.dom b (d1 b hbn), e.pre, fun b hbm => ?_⟩
    · have : b = x := by simpa using z
      rw [this, hx] at hbo
      cases hbo
    · rcases e.new b (.inl hbm) with z | z | z
      · exact .inl z
      · have : b = x := by simpa using z
        rw [this]
        exact .inr hx
      · refine .inr ?_
        cases hh : H b with
        | none => rfl
        | some o => exact absurd z (d1 b (by rw [hh]; simp))
  refine ⟨Wo W ω, μ, S, xs, x, dx, vs, rfl, s2, fun z => s.trk x z hx, upd_same, (rs.mono (Ext.fresh hdx).kp).mono (Ext.kpBan hx2), hl, ?_⟩
  rw [hb x 0]
  revert q
  generalize f 0 xs S = r
  intro q
  cases r with
  | bad => exact q
  | exc d ns ys S' => exact fun μ' H' p s' e' xf => q μ' H' p s' (x2 e') xf
  | ok y S' => exact fun μ' H' s' e' at_ => ⟨rfl, q μ' H' (s'.weak fun _ z => .inl z) (x2 e') x hx s' at_⟩
theorem make_t (hb : Blind f) (hn : LenA mA n) {σ : St} {H : Hp} {Q : VK} (h : tN X.K cl E (makeM f mA) σ H Q) : tMake (cl c) (spI X.K cl c n f) [] E (tDA X.K cl E mA) σ H Q := by
  obtain ⟨W, ω, μ, S, env, rl, q⟩ := h
  refine ⟨W, ω, μ, S, env, rl, q.bind.mono fun xs S1 μ1 H1 ee s1 e1 q1 vs rs x dx hx hdx hne => ?_⟩
  rw [List.append_nil]
  refine make_core hb s1 rs (hn _ _ _ _ ee) (q1.mono fun y S2 μ2 H2 _ s2 e2 q2 a ha => q2 a (fresh_back e1 ha)) x dx hx hdx hne
end
end Dm

set_option Elab.async false
set_option linter.all false
set_option maxRecDepth 100000
set_option autoImplicit false
set_option maxHeartbeats 1000000
/-! DmE: own == and !=, methods, loose calls. -/
namespace Dm
open PySem PySem.Spec L2
/-! ### x != y of a class with its own == and no != -/
section
variable {prog : Program} {w : World} {A : Around} {E : Value → Shared → Prop} {s : Shared} {K : PySem.W.Frag} {x C L f : Addr} {h₀ : Heap} {m : Str → Option Value} {ox : Obj} {od : Option Obj} {b tb : Value}
theorem ifBound_ob {M : Model} {args : List Value} {Q : Option Value → Shared → Prop} (X : K.In s.heap) (I : PySem.W.InstAt s.heap x ox C od) (hs : PySem.W.findIn K (.ref C) "__ne__" = some (some (.builtin "object.__ne__")))
    (h : wpAny M A (call (.builtin "object.__ne__") (.ref x :: args)) (fun v => Q (some v)) E s) : wpAny M A (callSpecialIfBound? (.ref x) "__ne__" args) Q E s := by
  simp only [callSpecialIfBound?, bindSpecialIfBound?]
  refine wpAny_holding (wpAny_bind (wpAny_bind (wpAny_bind (I.type.here ((PySem.W.looks_findIn X hs).here ?_)))))
  refine wpAny_bind (wpAny_askSetting (wpAny_ite ?_))
  have fin : wpAny M A (call (.builtin "object.__ne__") ([.ref x] ++ args) >>= fun v => pure (some v)) Q E s := wpAny_bind (wpAny_mono h (fun v s' h' => wpAny_pure h') fun _ _ h' => h')
  split
  · rw [PySem.F.cmp_object.ne.bind]
    exact wpAny_bind (wpAny_pure (wpAny_pure (by exact fin)))
  · rw [PySem.F.cmp_object.ne.bind]
    exact wpAny_tryCatch (wpAny_bind (wpAny_pure (wpAny_pure (by exact fin))))
theorem objNe_K (hu : A.units < cLine) (X : K.In s.heap) (I : PySem.W.InstAt s.heap x ox C od) (hs : PySem.W.findIn K (.ref C) "__eq__" = some (some (.ref f))) (hf : PySem.W.isFn K (.ref f) = true) {Q : Fin → Shared → Prop}
    (hcall : wpAny (model prog w) A (call (.ref f) [.ref x, b]) (fun v s' => ∃ k, v = .bool k ∧ Q (.done (.ret (.bool (!k)))) s') E s) :
    wpAny (model prog w) A (Builtin.«object.__ne__» ⟨[.ref x, b], []⟩) Q E s := by
  unfold Builtin.«object.__ne__»
  repeat (first
    | with_reducible refine wpAny_cRoomFor hu ?_
    | (refine wpAny_bind (m := callSpecialIfBound? (.ref x) (Str.ofString "__eq__") [b])
        (PySem.W.ifBound_K X I hs hf (wpAny_mono hcall (fun r s' hr => by
          obtain ⟨k, rfl, hq⟩ := hr
          repeat (first | exact hq | exact wpAny_pure hq | exact wpAny_truthy_bool hq | (refine wpAny_bind (m := truthy (.bool _)) (wpAny_truthy_bool ?_)) | wp_step)) fun _ _ e => e)))
    | wp_step)
theorem ne_K {Q : Value → Shared → Prop} (hu : A.units + 1 < cLine) (X : K.In s.heap) (I : PySem.W.InstAt s.heap x ox C od) (hb : PySem.W.Looks (model prog w) s.heap (typeOf b) tb) (hn : PySem.W.notFirst K C tb = true)
    (hne : PySem.W.findIn K (.ref C) "__ne__" = some (some (.builtin "object.__ne__"))) (hs : PySem.W.findIn K (.ref C) "__eq__" = some (some (.ref f))) (hf : PySem.W.isFn K (.ref f) = true) (ho : PySem.W.subIn K (.ref C) (.type "object") = some true)
    (h : wpAny (model prog w) A.in1 (call (.ref f) [.ref x, b]) (fun v s' => ∃ k, v = .bool k ∧ Q (.bool (!k)) s') E s) : wpAny (model prog w) A (richCompare .NotEq (.ref x) b) Q E s := by
  have one : wpAny (model prog w) A (tryCompare (.ref x) "__ne__" b) (fun r s' => ∃ v, r = some v ∧ Q v s') E s := by
    unfold tryCompare
    refine wpAny_bind (ifBound_ob X I hne (wpAny_call (codeAny_call_builtin PySem.F.cmp_object.ne.plain PySem.F.cmpEntry_ne
      (PySem.W.check_slot PySem.F.cmpKind_ne PySem.F.cmpSplit_ne (I.type.andThen (PySem.W.looks_subIn X ho)) (PySem.F.cmpArgs_ne _ _)
        (objNe_K (A := A.in1) hu X I hs hf (wpAny_mono h (fun v s' hv => ?_) fun _ _ e => e))))))
    obtain ⟨k, rfl, hq⟩ := hv
    exact ⟨k, rfl, wpAny_pure ⟨_, rfl, hq⟩⟩
  unfold richCompare
  simp only [oneThing_ref]
  refine wpAny_holding (wpAny_bind (wpAny_cRoomFor (Nat.lt_of_succ_lt hu) ?_))
  rw [cmpInfo_NotEq]
  dsimp only
  refine wpAny_bind (I.type.here (wpAny_bind (hb.here ?_)))
  split
  · rename_i q
    have e : PySem.W.subIn K tb (.ref C) = some false := by
      rcases Bool.or_eq_true_iff.mp hn with e | e
      · rw [beq_iff_eq.mp e] at q; simp at q
      · exact beq_iff_eq.mp e
    refine wpAny_bind ((PySem.W.looks_subIn X e).here ?_)
    simp only [Bool.false_eq_true, if_false]
    refine wpAny_bind (wpAny_mono one (fun r s' z => ?_) fun _ _ e => e)
    obtain ⟨v, rfl, hq⟩ := z
    exact wpAny_pure hq
  · refine wpAny_bind (wpAny_pure ?_)
    simp only [Bool.false_eq_true, if_false]
    refine wpAny_bind (wpAny_mono one (fun r s' z => ?_) fun _ _ e => e)
    obtain ⟨v, rfl, hq⟩ := z
    exact wpAny_pure hq
end
/-- what a class with its own == must have -/
structure EqC (K : PySem.W.Frag) (C f : Addr) : Prop where
  eq : PySem.W.findIn K (.ref C) "__eq__" = some (some (.ref f))
  fn : PySem.W.isFn K (.ref f) = true
  ne : PySem.W.findIn K (.ref C) "__ne__" = some (some (.builtin "object.__ne__"))
  ob : PySem.W.subIn K (.ref C) (.type "object") = some true
  nf : ∀ t : Ty, PySem.W.notFirst K C (.type t.nm) = true
/-- y's type, as far as == asks -/
def TyE (K : PySem.W.Frag) (H : Hp) (C : Addr) (y : V) : Prop := (∃ t : Ty, TyX K H y (.type t.nm)) ∨ ∃ a dx fs, y = .ref a ∧ H a = some (.ins C dx fs)
def rEqO (K : PySem.W.Frag) (C : Addr) (sp : Sp) (E : XK) (g : Bool → Bool) : R2 := fun x y H Q => ∃ a dx fs, x = .ref a ∧ H a = some (.ins C dx fs) ∧ TyE K H C y ∧ sp [x, y] H (fun v H' => ∃ k, v = .bl k ∧ Q (.bl (g k)) H') E
section
variable {X : Cx} {k : Nat} {C f : Addr} {fd : FuncData} {ps : List Str} {sp : Sp} {E : XK}
theorem ty_looks {pins : List (Addr × Obj)} {σ : St} {H : Hp} {s : Shared} (I : Inv X pins σ H s) {y : V} {v : Value} (ry : RelV y v) (EC : EqC X.K C f) (ht : TyE X.K H C y) : ∃ tb, PySem.W.Looks (model X.prog X.w) s.heap (typeOf v) tb ∧ PySem.W.notFirst X.K C tb = true := by
  rcases ht with ⟨t, ht⟩ | ⟨a, dx, fs, rfl, ha⟩
  · obtain ⟨P, Z, p, _⟩ := kit_of I ry ht
    exact ⟨_, Z.ty _ s.heap I.kIn p, EC.nf t⟩
  · cases ry
    obtain ⟨mB, J', _⟩ := ins_get I.hok ha
    obtain ⟨od', J', _⟩ := J'.look
    exact ⟨.ref C, J'.type, by simp [PySem.W.notFirst]⟩
theorem own_run {pins : List (Addr × Obj)} {σ : St} {H : Hp} {s : Shared} {A : Around} (F : FnOk X.prog X.w X.K X.mg X.base (L2.CX X.prog X.w) k f fd ps sp) (sb : Sub X k A) (hb : Binds X.K fd ps []) (hx : Passes (L2.CX X.prog X.w) X E) (I : Inv X pins σ H s) {x y : V} {u v : Value} (rx : RelV x u) (ry : RelV y v) {Q : VK} (hsp : sp [x, y] H Q E) :
    wpAny (model X.prog X.w) A (call (.ref f) [u, v]) (EP X pins σ Q) X.xe s := by
  have e0 : Env0 X.prog X.w X.K X.mg X.base A X.stack s H := by
    have e := I.env0
    exact ⟨by rw [sb.fr]; exact e.frames, e.mod, e.bs, e.bsz, e.funs, e.frf, e.hok, e.bare⟩
  have hl := F.len _ _ _ _ hsp
  have r2 : Vals [x, y] [u, v] := .cons rx (.cons ry .nil)
  refine wpAny_call (codeAny_mono (F.run A X.stack s H ⟨[u, v], []⟩ [u, v] [x, y] _ E sb.room e0 (by
    have := hb s [u, v] I.kIn (by simpa using hl)
    simpa using this) r2 hsp) fun r s' hq => ?_)
  cases r with
  | error e => exact hx pins σ H s e s' I hq
  | ok fl =>
    cases fl with
    | ret w => exact I.after hq
    | next => exact False.elim hq
    | brk => exact False.elim hq
    | cont => exact False.elim hq
theorem op_eqO (F : FnOk X.prog X.w X.K X.mg X.base (L2.CX X.prog X.w) k f fd ps sp) (hr : Room k X.A) (EC : EqC X.K C f) (hb : Binds X.K fd ps []) (hx : Passes (L2.CX X.prog X.w) X E) : OpR X (compareOp .Eq) (rEqO X.K C sp E id) := by
  intro pins s σ H x y u v Q I rx ry h
  obtain ⟨a, dx, fs, rfl, ha, ht, hsp⟩ := h
  cases (show u = Value.ref a from rx)
  obtain ⟨mA, J, _⟩ := ins_get I.hok ha
  obtain ⟨od, J, _⟩ := J.look
  obtain ⟨tb, l1, l2⟩ := ty_looks I ry EC ht
  obtain ⟨m, hF⟩ := I.fr
  refine PySem.W.cmp_K (op := .Eq) (tb := tb) hr.units0 hF I.ok.mod.kin J l1 l2 EC.eq EC.fn (wpAny_mono (own_run F ⟨hr, rfl⟩ hb hx I (x := .ref a) (u := .ref a) rfl ry hsp) (fun r s' z => ?_) fun _ _ x => x)
  obtain ⟨z, H', I', rz, b, hz, q⟩ := z
  subst hz
  cases rz
  exact ⟨.bl b, H', I', rfl, q⟩
theorem op_neO (F : FnOk X.prog X.w X.K X.mg X.base (L2.CX X.prog X.w) k f fd ps sp) (hr : Room (k + 1) X.A) (EC : EqC X.K C f) (hb : Binds X.K fd ps []) (hx : Passes (L2.CX X.prog X.w) X E) : OpR X (compareOp .NotEq) (rEqO X.K C sp E not) := by
  intro pins s σ H x y u v Q I rx ry h
  obtain ⟨a, dx, fs, rfl, ha, ht, hsp⟩ := h
  cases (show u = Value.ref a from rx)
  obtain ⟨mA, J, _⟩ := ins_get I.hok ha
  obtain ⟨od, J, _⟩ := J.look
  obtain ⟨tb, l1, l2⟩ := ty_looks I ry EC ht
  obtain ⟨m, hF⟩ := I.fr
  refine ne_K (tb := tb) hr.in1.units0 I.kIn J l1 l2 EC.ne EC.eq EC.fn EC.ob (wpAny_mono (own_run F (Sub.in1 ⟨hr, rfl⟩) hb hx I (x := .ref a) (u := .ref a) rfl ry hsp) (fun r s' z => ?_) fun _ _ x => x)
  obtain ⟨z, H', I', rz, b, hz, q⟩ := z
  subst hz
  cases rz
  exact ⟨_, rfl, .bl (!b), H', I', rfl, q⟩
end
end Dm

set_option Elab.async false
set_option linter.all false
set_option maxRecDepth 100000
set_option autoImplicit false
set_option maxHeartbeats 4000000
/-! DmTm: tuple * int, every count. -/
namespace Dm
open PySem PySem.Spec L2 PyProof.Rows
theorem tuple_mul1 (l : Addr) (items : Array Value) (n : Nat) (dd : Option Addr) (sl : Array (Option Value)) (u : Tok) :
    Meets (Builtin.«tuple.__mul__» ⟨[.ref l, .int 1 u], []⟩) (fun _ R s => s.heap.get? l = some { cls := .type "tuple", dict := dd, data := .seq items n, slots := sl } ∧ R (.ok (.ret (Value.ref l))) s) :=
  .of_wp fun prog w A R s h => by
    obtain ⟨hp, g, d, tk, os⟩ := s
    obtain ⟨hl, h⟩ := h
    have f1 := AutoSeq1.idx_int
    have c0 : (decide ((1 : Int) < -(2 ^ 63)) || decide ((1 : Int) ≥ 2 ^ 63)) = false := by decide
    have c1 : (items.isEmpty || (1 : Int) == 1) = true := by simp
    wp_walk using wpAny_loadPart' hl
    repeat (first
      | (refine wpAny_ite_false (decide_eq_false (by rw [c0]; exact Bool.false_ne_true)) ?_; wp_walk using wpAny_loadPart' hl)
      | (refine wpAny_ite_true (decide_eq_true (by rw [c1])) ?_; wp_walk using wpAny_loadPart' hl))
    exact ⟨_, rfl, h⟩
theorem tuple_mul0 (l : Addr) (items : Array Value) (n : Nat) (dd : Option Addr) (sl : Array (Option Value)) (x : Int) (u : Tok) (c0 : (decide (x < -(2 ^ 63)) || decide (x ≥ 2 ^ 63)) = false) (c1 : (items.isEmpty || x == 1) = false) (c2 : (decide (x ≤ 0) || items.isEmpty) = true) :
    Meets (Builtin.«tuple.__mul__» ⟨[.ref l, .int x u], []⟩) (fun _ R s => s.heap.get? l = some { cls := .type "tuple", dict := dd, data := .seq items n, slots := sl } ∧
      R (.ok (.ret (Value.ref s.heap.objs.size))) { s with heap := s.heap.push { cls := Value.type "tuple", data := Data.seq #[] }, toks := s.toks }) :=
  .of_wp fun prog w A R s h => by
    obtain ⟨hp, g, d, tk, os⟩ := s
    obtain ⟨hl, h⟩ := h
    have f1 := AutoSeq1.idx_int
    wp_walk using wpAny_loadPart' hl
    repeat (first
      | (refine wpAny_ite_false (decide_eq_false (by rw [c0]; exact Bool.false_ne_true)) ?_; wp_walk using wpAny_loadPart' hl)
      | (refine wpAny_ite_false (decide_eq_false (by rw [c1]; exact Bool.false_ne_true)) ?_; wp_walk using wpAny_loadPart' hl)
      | (refine wpAny_ite_true (decide_eq_true (by rw [c2])) ?_; wp_walk using wpAny_loadPart' hl))
    exact ⟨_, rfl, h⟩
def rRep1 (K : PySem.W.Frag) : R2 := fun x y H Q => ∃ l xs, x = .ref l ∧ y = .int 1 ∧ SqT K H l xs ∧ Q (.ref l) H
def rRep0 (K : PySem.W.Frag) : R2 := fun x y H Q => ∃ l k xs, x = .ref l ∧ y = .int k ∧ SqT K H l xs ∧ xs ≠ [] ∧ k ≤ 0 ∧ -(2 ^ 63) ≤ k ∧ ∀ p, H p = none → Q (.ref p) (upd H p (.tup []))
section
variable {X : Cx} {cl : Cl}
theorem op_rep1 : OpR X (binaryOp .Mult) (rRep1 X.K) := by
  intro pins s σ H x y v u Q I rx ry h
  obtain ⟨l, xs, rfl, rfl, hT, q⟩ := h
  cases rx
  obtain ⟨t, rfl⟩ := ry
  obtain ⟨its, r, ⟨⟨cls, dd, data, sl⟩, ho, hc, n, hd⟩, hs⟩ := I.tuple hT
  simp only at hc hd
  subst hc hd
  refine wpAny_binaryOp_repeat_ref (T := "tuple") (U := "int") (by decide) ⟨_, ho, rfl⟩ (fun s' => typeIs_int s' 1 t) noFill_tuple_mul F.fills_int_mul F.slot_int_rmul repeat_tuple F.slot_int_index.lookup
    (call_meets F.slot_int_rmul (typeIs_int s 1 t) F.entry_int_rmul (F.args_int_rmul_2 _ _) (int_rmul_tuple 1 t l its.toArray n dd sl)
      ⟨ho, rfl, ⟨_, ho, rfl⟩, call_meets F.slot_tuple_mul ⟨_, ho, rfl⟩ F.entry_tuple_mul (F.args_tuple_mul_2 _ _) (tuple_mul1 l its.toArray n dd sl t) ⟨ho, ?_⟩⟩)
  exact ⟨.ref l, H, I, rfl, q⟩
theorem op_rep0 : OpR X (binaryOp .Mult) (rRep0 X.K) := by
  intro pins s σ H x y v u Q I rx ry h
  obtain ⟨l, k, xs, rfl, rfl, hT, hne, h1, h2, q⟩ := h
  cases rx
  obtain ⟨t, rfl⟩ := ry
  obtain ⟨its, r, ⟨⟨cls, dd, data, sl⟩, ho, hc, n, hd⟩, hs⟩ := I.tuple hT
  simp only at hc hd
  subst hc hd
  have hi : its.toArray.isEmpty = false := by
    cases its with
    | nil => exact absurd (List.eq_nil_of_length_eq_zero r.length) hne
    | cons a b => rfl
  have c0 : (decide (k < -(2 ^ 63)) || decide (k ≥ 2 ^ 63)) = false := by
    rw [decide_eq_false (by omega), decide_eq_false (by omega)] <;> rfl
  have c1 : (its.toArray.isEmpty || k == 1) = false := by
    rw [hi, Bool.false_or]
    exact beq_eq_false_iff_ne.mpr (by omega)
  have c2 : (decide (k ≤ 0) || its.toArray.isEmpty) = true := by rw [decide_eq_true h1] <;> rfl
  refine wpAny_binaryOp_repeat_ref (T := "tuple") (U := "int") (by decide) ⟨_, ho, rfl⟩ (fun s' => typeIs_int s' k t) noFill_tuple_mul F.fills_int_mul F.slot_int_rmul repeat_tuple F.slot_int_index.lookup
    (call_meets F.slot_int_rmul (typeIs_int s k t) F.entry_int_rmul (F.args_int_rmul_2 _ _) (int_rmul_tuple k t l its.toArray n dd sl)
      ⟨ho, rfl, ⟨_, ho, rfl⟩, call_meets F.slot_tuple_mul ⟨_, ho, rfl⟩ F.entry_tuple_mul (F.args_tuple_mul_2 _ _) (tuple_mul0 l its.toArray n dd sl k t c0 c1 c2) ⟨ho, ?_⟩⟩)
  refine ⟨.ref s.heap.objs.size, _, I.laid (t' := s.toks) (o := .tup []) (fun b ob q => Heap.get?_push_of_some _ q) (Nat.le_refl _) ?_, rfl, q _ (I.hok.fresh (Nat.le_refl _))⟩
  exact ⟨Nat.zero_le _, _, .nil, IsTup.new _ _⟩
/-- tuple * int -/
def mulTF : F2 := fun _ x y => match x, y with
  | .tup xs, .int k => if xs ≠ [] ∧ xs.length ≤ 1000 ∧ -(2 ^ 63) ≤ k ∧ k ≤ 1000 then some (.tup (List.replicate k.toNat xs).flatten) else none
  | _, _ => none
def rMulT (K : PySem.W.Frag) : R2 := fun v u H Q => rRep1 K v u H Q ∨ rRep0 K v u H Q ∨ rRepT K v u H Q
theorem o_mulT : OpR X (binaryOp .Mult) (rMulT X.K) := op_rep1.or (op_rep0.or op_repT)
theorem s_mulT : Op2 X cl (rMulT X.K) mulTF := fun W ω μ S H x y z v u Q s rx ry h k => by
  unfold mulTF at h
  split at h
  · rename_i xs j
    split at h
    · rename_i hb
      cases h
      obtain ⟨a, vs, rfl, h1, h2, h3⟩ := repL_tup rx
      have hne : vs ≠ [] := fun e => hb.1 (by rw [e] at h3; exact List.eq_nil_of_length_eq_zero h3.length)
      rw [repL_int ry]
      by_cases c1 : j = 1
      · subst c1
        refine .inl ⟨a, vs, rfl, rfl, .of h1, k H _ s Ext.refl ?_⟩
        have : (List.replicate (1 : Int).toNat xs).flatten = xs := by simp
        rw [this]
        exact .tup h1 h2 h3
      · by_cases c2 : j ≤ 0
        · refine .inr (.inl ⟨a, j, vs, rfl, rfl, .of h1, hne, c2, hb.2.2.1, fun p hp => k _ _ (s.fresh hp) (Ext.fresh hp) ?_⟩)
          have : j.toNat = 0 := by omega
          rw [this]
          exact rep_newT s hp .nil
        · exact .inr (.inr ⟨a, j, vs, rfl, rfl, .of h1, hne, by omega, hb.2.2.2, by rw [← h3.length]; exact hb.2.1, fun p hp => k _ _ (s.fresh hp) (Ext.fresh hp) (rep_newT s hp (reps_rep h3 _))⟩)
    · cases h
  · cases h
end
end Dm

set_option Elab.async false
set_option linter.all false
set_option maxRecDepth 100000
set_option autoImplicit false
set_option maxHeartbeats 1000000
/-! DmF: own == by mirrors, methods, isinstance with own classes, calls with own objects. -/
namespace Dm
open PySem PySem.Spec L2
section
variable {X : Cx} {cl : Cl} {E : XK} {e a b : Expr} {m ma mb : EM} {pos : Pos} {c : Nat} {f : List Vl → Sto → Res Vl} {g : Bool → Bool}
def insOf (S : Sto) (c : Nat) (x : Vl) : Bool := match look S x with
  | .ins d _ _ => d == c
  | _ => false
theorem ins_of {K : PySem.W.Frag} {W : Addr → Prop} {ω : List (Option Addr)} {μ : List Addr} {S : Sto} {H : Hp} {x : Vl} {v : V} (s : Sim K cl (Wo W ω) μ S H) (r : RepL K cl W ω μ H x v) (h : insOf S c x = true) : ∃ a dx fs, v = .ref a ∧ H a = some (.ins (cl c) dx fs) := by
  have r2 := repR_of s r
  unfold insOf at h
  revert r2 h
  generalize look S x = y
  intro h r2
  cases y with
  | ins d ns xs =>
    obtain ⟨a, dx, fs, h1, h2, _⟩ := repR_ins r2
    have : d = c := by simpa using h
    subst this
    exact ⟨a, dx, fs, h1, h2⟩
  | _ => simp at h
def eqOk (S : Sto) (c : Nat) (x y : Vl) : Bool := insOf S c x && ((tyOf S y).isSome || insOf S c y)
/-- x == y, by the class's own == (g: id, or not for !=) -/
def binC (c : Nat) (f : List Vl → Sto → Res Vl) (g : Bool → Bool) (a b : EM) : EM := fun env S => (a env S).bind fun x S1 => (b env S1).bind fun y S2 => if eqOk S2 c x y = true then (f [x, y] S2).bind fun r S3 => (match r with
    | .bl k => .ok (.bl (g k)) S3
    | _ => .bad) else .bad
theorem binC_t {σ : St} {H : Hp} {Q : VK} (h : tD X.K cl E (binC c f g ma mb) σ H Q) : tOp (rEqO X.K (cl c) (spM X.K cl 2 f) E g) (tD X.K cl E ma) (tD X.K cl E mb) σ H Q := by
  obtain ⟨W, ω, μ, S, env, rl, q⟩ := h
  refine ⟨W, ω, μ, S, env, rl, q.bind.mono fun x S1 μ1 H1 _ s1 e1 q1 v rv => ?_⟩
  refine ⟨W, ω, μ1, S1, env, rl.ext e1 s1, q1.bind.mono fun y S2 μ2 H2 _ s2 e2 q2 u ru => ?_⟩
  by_cases hk : eqOk S2 c x y = true
  · rw [if_pos hk] at q2
    have rv2 := rv.mono e2.kp
    obtain ⟨k1, k2⟩ := (Bool.and_eq_true _ _ ▸ hk : insOf S2 c x = true ∧ _)
    obtain ⟨a, dx, fs, rfl, ha⟩ := ins_of s2 (.inl rv2) k1
    refine ⟨a, dx, fs, rfl, ha, ?_, ⟨Wo W ω, μ2, S2, [x, y], s2, .cons rv2 (.cons ru .nil), rfl, q2.bind.mono fun r S3 μ3 H3 _ s3 e3 q3 z rz => ?_⟩⟩
    · rcases Bool.or_eq_true_iff.mp k2 with k2 | k2
      · obtain ⟨t, ht⟩ := Option.isSome_iff_exists.mp k2
        exact .inl ⟨t, ty_rep s2 (.inl ru) ht⟩
      · obtain ⟨b, dy, gs, rfl, hb⟩ := ins_of s2 (.inl ru) k2
        exact .inr ⟨b, dy, gs, rfl, hb⟩
    · cases r with
      | bl k =>
        cases rz
        exact ⟨k, rfl, q3 μ3 H3 s3 Ext.refl _ (.bl _)⟩
      | _ => exact q3.elim
  · rw [if_neg hk] at q2
    exact q2.elim
theorem de_cmpC {op : CmpOp} (ho : OpR X (compareOp op) (rEqO X.K (cl c) (spM X.K cl 2 f) E g)) (ha : PE X a (tD X.K cl E ma)) (hb : PE X b (tD X.K cl E mb)) (hm : behindInMarks op b = false) : PE X (.Compare a [op] [b] pos) (tD X.K cl E (binC c f g ma mb)) :=
  (pe_cmpR ho ha hb hm).imp fun _ _ _ h => binC_t h
theorem dt_cmpC {op : CmpOp} (ho : OpR X (compareOp op) (rEqO X.K (cl c) (spM X.K cl 2 f) E g)) (ha : PE X a (tD X.K cl E ma)) (hb : PE X b (tD X.K cl E mb)) (hm : behindInMarks op b = false) : PT X (.Compare a [op] [b] pos) (tDT X.K cl E (tv (binC c f g ma mb))) :=
  (pt_cmpR ho ha hb hm).imp fun _ _ _ h => binC_t (tv_t h)
/-! ### o.m(..) -/
def methM (c : Nat) (nm : Str) (f : List Vl → Sto → Res Vl) (o : EM) (a : AM) : EM := fun env S => (o env S).bind fun x S1 => match look S1 x with
  | .ins d ns xs => if d = c ∧ fGet ns xs nm = none then (a env S1).bind fun ys S2 => f (x :: ys) S2 else .bad
  | _ => .bad
theorem meth_t {nm : Str} {mA : AM} {n : Nat} (hn : LenA mA n) {σ : St} {H : Hp} {Q : VK} (h : tD X.K cl E (methM c nm f m mA) σ H Q) : tMeth (cl c) nm (spM X.K cl (n + 1) f) [] E (tD X.K cl E m) (tDA X.K cl E mA) σ H Q := by
  obtain ⟨W, ω, μ, S, env, rl, q⟩ := h
  refine ⟨W, ω, μ, S, env, rl, q.bind.mono fun x S1 μ1 H1 _ s1 e1 q1 v rv => ?_⟩
  have r2 := repR_of s1 (.inl rv : RepL X.K cl W ω μ1 H1 x v)
  revert r2 q1
  generalize hl : look S1 x = y
  intro q1 r2
  cases y with
  | ins d ns xs =>
    dsimp only at q1
    by_cases hd : d = c ∧ fGet ns xs nm = none
    · rw [if_pos hd] at q1
      obtain ⟨rfl, hf⟩ := hd
      obtain ⟨a, dx, fs, rfl, h2, h3, h4⟩ := repR_ins r2
      subst h3
      refine ⟨a, dx, fs, rfl, h2, (fGet_ok h4).2 hf, ⟨W, ω, μ1, S1, env, rl.ext e1 s1, q1.bind.mono fun ys S2 μ2 H2 ee s2 e2 q2 vs rs => ?_⟩⟩
      show spM X.K cl (n + 1) f (.ref a :: (vs ++ [])) H2 Q E
      rw [List.append_nil]
      exact sat_call s2 (.cons (rv.mono e2.kp) rs) (by rw [List.length_cons, hn _ _ _ _ ee]) q2
    · rw [if_neg hd] at q1
      exact q1.elim
  | _ => exact q1.elim
theorem meth_t0 {nm : Str} {σ : St} {H : Hp} {Q : VK} (h : tD X.K cl E (methM c nm f m nilA) σ H Q) : tMeth (cl c) nm (spM X.K cl 1 f) [] E (tD X.K cl E m) tNil σ H Q := by
  obtain ⟨W, ω, μ, S, env, rl, q⟩ := meth_t lenA_nil h
  refine ⟨W, ω, μ, S, env, rl, q.mono fun x S1 μ1 H1 _ s1 e1 q1 v rv => ?_⟩
  obtain ⟨a, dx, fs, h1, h2, h3, W', ω', μ', S', env', rl', q'⟩ := q1 v rv
  exact ⟨a, dx, fs, h1, h2, h3, q' μ' H1 rl'.sim Ext.refl [] .nil⟩
/-! ### isinstance(e, C), C an own class -/
/-- what isinstance asks of a class of instances -/
structure IsC (K : PySem.W.Frag) (C : Addr) : Prop where
  cls : Cls K C
  ha : PySem.W.findIn K (.ref C) "__class__" = some (some (.builtin "object.__class__"))
  hn : PySem.W.specialIn K (.builtin "object.__class__") "__get__" = some (some (.builtin "getset_descriptor.__get__"))
  htk : PySem.W.takesIn K (.builtin "object.__class__") = some true
  hm : PySem.W.mroIn K C (.type "object") = some true
/-- ds: the classes that are c -/
def isoM (ds : List Nat) (cs : List Nat) (m : EM) : EM := fun env S => (m env S).bind fun x S1 => match look S1 x with
  | .ins d _ _ => if d ∈ cs then .ok (.bl (decide (d ∈ ds))) S1 else .bad
  | _ => match tyOf S1 x with
    | some _ => .ok (.bl false) S1
    | none => .bad
theorem de_iso {ds cs : List Nat} {ce : Expr} {p : Pos} (he : PE X e (tL X.K cl E m)) (hc : PE X ce (tC (.ref (cl c)))) (hg : Gl X "isinstance") (hm : X.mg "isinstance" = none) (hv : bootBuiltins "isinstance" = some (.builtin "isinstance"))
    (h1 : ∀ d ∈ cs, IsC X.K (cl d)) (h2 : ∀ d ∈ cs, PySem.W.kitOne X.K (.ref (cl d)) (.ref (cl c)) = some (decide (d ∈ ds))) (h3 : ∀ t : Ty, PySem.W.kitOne X.K (.type t.nm) (.ref (cl c)) = some false)
    (hs : starEach [e, ce] X.env = (false, eval e X.env) :: starEach [ce] X.env := by rfl) (hs2 : starEach [ce] X.env = [(false, eval ce X.env)] := by rfl) (hpl : (backTo pos (starEach [ce] X.env)).any (·.1) = false := by rfl) : PE X (.Call (.Name "isinstance" p) [e, ce] [] pos) (tD X.K cl E (isoM ds cs m)) :=
  (pe_callB call_isi hg hm hv (pa_cons he (pa_cons hc pa_nil hs2) hs) (by decide) (by decide) hs hpl).imp fun σ H Q ⟨W, ω, μ, S, env, rl, q⟩ => ⟨W, ω, μ, S, env, rl, q.bind.mono fun x S1 μ1 H1 _ s1 e1 q1 v rv => by
    have r2 := repR_of s1 rv
    have r3 := fun t (ht : tyOf S1 x = some t) => ty_rep s1 rv ht
    have old : (match tyOf S1 x with | some _ => Res.ok (Vl.bl false) S1 | none => .bad) = (match tyOf S1 x with | some _ => Res.ok (Vl.bl false) S1 | none => .bad) → ∀ q : SatG X.K cl (Wo W ω) μ1 H1 (match tyOf S1 x with | some _ => Res.ok (Vl.bl false) S1 | none => .bad) (fun x _ μ' H' => ∀ v, Rep X.K cl (Bn (Wo W ω) μ') μ' H' x v → Q v H') E, rIsi X.K [v, .ref (cl c)] H1 Q := fun _ q => by
      cases ht : tyOf S1 x with
      | none => rw [ht] at q; exact q.elim
      | some t =>
        rw [ht] at q
        exact ⟨v, .ref (cl c), .type t.nm, .ref (cl c), false, rfl, .own _, r3 t ht, h3 t, q μ1 H1 s1 Ext.refl _ (.bl _)⟩
    show rIsi X.K [v, .ref (cl c)] H1 Q
    revert r2 q1
    generalize look S1 x = y
    intro q1 r2
    cases y with
    | ins d ns xs =>
      dsimp only at q1
      by_cases hd : d ∈ cs
      · rw [if_pos hd] at q1
        obtain ⟨a, dx, fs, rfl, g2, _⟩ := repR_ins r2
        have I := h1 d hd
        exact ⟨.ref a, .ref (cl c), .ref (cl d), .ref (cl c), _, rfl, .own _, .base (.ins g2 I.cls I.ha I.hn I.htk I.hm), h2 d hd, q1 μ1 H1 s1 Ext.refl _ (.bl _)⟩
      · rw [if_neg hd] at q1
        exact q1.elim
    | _ => exact old rfl q1⟩
end
end Dm

set_option Elab.async false
set_option linter.all false
set_option maxRecDepth 100000
set_option autoImplicit false
set_option maxHeartbeats 1000000
/-! DmG: own objects handed to calls; construction by keywords; a, b = x, y with own objects. -/
namespace Dm
open PySem PySem.Spec L2
mutual
/-- no list, no dict inside -/
def nlB : Vl → Bool
  | .non => true
  | .bl _ => true
  | .int _ => true
  | .str _ => true
  | .ref _ => true
  | .tup xs => nlBs xs
  | .ins _ _ xs => nlBs xs
  | .lst _ => false
  | .dk _ _ => false
  | .dt _ _ => false
  | .scr _ => false
  | .ftp xs => nlBs xs
  | .tab _ _ => true
  | .exn _ _ xs => nlBs xs
  | .fdk _ _ => false
  | .fdt _ _ => false
def nlBs : List Vl → Bool
  | [] => true
  | x :: xs => nlB x && nlBs xs
end
def nlO : Vl → Bool
  | .lst xs => nlBs xs
  | .dk _ xs => nlBs xs
  | .dt _ xs => nlBs xs
  | .ins _ _ xs => nlBs xs
  | _ => true
def stOk (S : Sto) : Bool := S.all nlO
def svOk : Sv → Bool
  | .ow (.ins _ _ _) => false
  | .ow (.tab _ _) => false
  | .sf _ _ => false
  | _ => true
def envOk (env : List Sv) : Bool := env.all svOk
def SqO (o : HO) : Prop := (∃ vs, o = .lst vs) ∨ (∃ k, o = .dK k) ∨ ∃ k, o = .dT k
theorem ext_nsq {o : HO} {φ : Heap → Prop} (e : o = .ext φ) (h : SqO o) : False := by
  subst e
  rcases h with ⟨_, h⟩ | ⟨_, h⟩ | ⟨_, h⟩ <;> cases h
theorem exo_nsq {o : HO} {a C : Addr} {d : Option Addr} (e : o = exo a C d) (h : SqO o) : False := ext_nsq e h
theorem exd_nsq {o : HO} {a : Addr} {fs : List (Str × V)} (e : o = exd a fs) (h : SqO o) : False := ext_nsq e h
section
variable {K : PySem.W.Frag} {cl : Cl} {B B' W W' : Addr → Prop} {μ : List Addr} {H : Hp} {S : Sto}
theorem TabC.ban (hB : ∀ a, B' a → B a ∨ ∃ o, H a = some o ∧ SqO o) {q : Str} {ps : Array Value} (h : TabC B H q ps) : TabC B' H q ps := ⟨h.1, fun pos cv hc => by
  obtain ⟨c, e1, e2, e3⟩ := h.2 pos cv hc
  refine ⟨c, e1, e2, fun z => (hB c z).elim e3 fun ⟨o, g1, g2⟩ => ?_⟩
  rw [e2] at g1
  cases g1
  rcases g2 with ⟨_, g⟩ | ⟨_, g⟩ | ⟨_, g⟩ <;> exact absurd g (by unfold LamX.CodeO; simp)⟩
mutual
theorem Rep.ban (hB : ∀ a, B' a → B a ∨ ∃ o, H a = some o ∧ SqO o) : ∀ {x : Vl} {v : V}, nlB x = true → Rep K cl B μ H x v → Rep K cl B' μ H x v
  | _, _, _, .non => .non
  | _, _, _, .bl b => .bl b
  | _, _, _, .int i => .int i
  | _, _, _, .str x => .str x
  | _, _, h, .tup e n r => .tup e (fun z => (hB _ z).elim n fun ⟨o, e2, q⟩ => by rw [e] at e2; cases e2; rcases q with ⟨_, q⟩ | ⟨_, q⟩ | ⟨_, q⟩ <;> cases q) (Reps.ban hB (by simpa [nlB] using h) r)
  | _, _, h, .lst e n r => by simp [nlB] at h
  | _, _, h, .scr e => by simp [nlB] at h
  | _, _, h, .ftp e d n r => .ftp e d (fun z => (hB _ z).elim n fun ⟨o, e2, q⟩ => by rw [e] at e2; cases e2; rcases q with ⟨_, q⟩ | ⟨_, q⟩ | ⟨_, q⟩ <;> cases q) (Reps.ban hB (by simpa [nlB] using h) r)
  | _, _, h, .dk e n q r => by simp [nlB] at h
  | _, _, h, .dt e n q r => by simp [nlB] at h
  | _, _, h, .ins e n q r => .ins e (fun z => (hB _ z).elim n fun ⟨o, e2, q⟩ => by rw [e] at e2; cases e2; rcases q with ⟨_, q⟩ | ⟨_, q⟩ | ⟨_, q⟩ <;> cases q) q (Reps.ban hB (by simpa [nlB] using h) r)
  | _, _, _, .ref e => .ref e
  | _, _, _, .tab g e n t => .tab g e (fun z => (hB _ z).elim n fun ⟨o, e2, q⟩ => by rw [e] at e2; cases e2; rcases q with ⟨_, q⟩ | ⟨_, q⟩ | ⟨_, q⟩ <;> cases q) (t.ban hB)
  | _, _, h, .exn e n e2 n2 q r => .exn e (fun z => (hB _ z).elim n fun ⟨o, f2, q⟩ => exo_nsq (by rw [e] at f2; exact (Option.some.inj f2).symm) q) e2 (fun z => (hB _ z).elim n2 fun ⟨o, f2, q⟩ => exd_nsq (by rw [e2] at f2; exact (Option.some.inj f2).symm) q) q (Reps.ban hB (by simpa [nlB] using h) r)
  | _, _, h, .fdk e n q r => by simp [nlB] at h
  | _, _, h, .fdt e n q r => by simp [nlB] at h
  | _, _, h, .exz e n => .exz e (fun z => (hB _ z).elim n fun ⟨o, f2, q⟩ => exo_nsq (by rw [e] at f2; exact (Option.some.inj f2).symm) q)
theorem Reps.ban (hB : ∀ a, B' a → B a ∨ ∃ o, H a = some o ∧ SqO o) : ∀ {xs : List Vl} {vs : List V}, nlBs xs = true → Reps K cl B μ H xs vs → Reps K cl B' μ H xs vs
  | _, _, _, .nil => .nil
  | _, _, h, .cons r t => by
    simp only [nlBs, Bool.and_eq_true] at h
    exact .cons (Rep.ban hB h.1 r) (Reps.ban hB h.2 t)
end
theorem At.ban (hB : ∀ a, B' a → B a ∨ ∃ o, H a = some o ∧ SqO o) {a : Addr} {x : Vl} (h : nlO x = true) (r : At K cl B μ H a x) : At K cl B' μ H a x := by
  cases r with
  | lst e r => exact .lst e (r.ban hB h)
  | dk e q r => exact .dk e q (r.ban hB h)
  | dt e q r => exact .dt e q (r.ban hB h)
  | ins e q r => exact .ins e q (r.ban hB h)
  | tab g e t => exact .tab g e (t.ban hB)
theorem bn_ban (h : ∀ a, W' a → W a ∨ ∃ o, H a = some o ∧ SqO o ∧ a ∉ μ) (a : Addr) (z : Bn W' μ a) : Bn W μ a ∨ ∃ o, H a = some o ∧ SqO o :=
  z.elim (fun z => .inl (.inl z)) fun z => (h a z).elim (fun z => .inl (.inr z)) fun ⟨o, e, q, _⟩ => .inr ⟨o, e, q⟩
theorem Sim.ban (s : Sim K cl W μ S H) (h : ∀ a, W' a → W a ∨ ∃ o, H a = some o ∧ SqO o ∧ a ∉ μ) (hs : stOk S = true) : Sim K cl W' μ S H where
  len := s.len
  nd := s.nd
  dis := fun a ha z => (h a z).elim (s.dis a ha) fun ⟨_, _, _, n⟩ => n ha
  trn := fun a z => (h a z).elim (s.trn a) fun ⟨o, e, q, _⟩ => ⟨o, e, by
    rcases q with ⟨vs, q⟩ | ⟨k, q⟩ | ⟨k, q⟩ <;> rw [q] <;> intro _ z <;> cases z⟩
  obs := fun n x e => by
    obtain ⟨a, e1, e2⟩ := s.obs n x e
    exact ⟨a, e1, e2.ban (bn_ban h) (List.all_eq_true.mp hs x (List.mem_of_getElem? e))⟩
end
section
variable {X : Cx} {cl : Cl} {E : XK} {mA : AM} {f : List Vl → Sto → Res Vl} {fi : Addr → List Vl → Sto → Res Vl} {n c : Nat}
/-- own objects are lists and dicts -/
theorem own_sq {K : PySem.W.Frag} {W : Addr → Prop} {ω : List (Option Addr)} {μ : List Addr} {S : Sto} {env : List Sv} {σ : St} {H : Hp} (rl : Rl K cl W ω μ S env σ H) (h : envOk env = true) {a : Addr} (ha : some a ∈ ω) : ∃ o, H a = some o ∧ SqO o := by
  obtain ⟨i, hi⟩ := List.getElem?_of_mem ha
  have h1 := (List.getElem?_eq_some_iff.mp hi).1
  have h2 : i < env.length := by rw [rl.l1, ← rl.l2]; exact h1
  have h3 : i < σ.length := by rw [← rl.l2]; exact h1
  have sl := rl.at_ i _ _ _ (List.getElem?_eq_getElem h2) hi (List.getElem?_eq_getElem h3)
  have hk := List.all_eq_true.mp h _ (List.getElem_mem h2)
  revert sl hk
  generalize env[i] = e
  intro sl hk
  cases e with
  | un => cases sl
  | v x => cases sl.1
  | sf b x => simp [svOk] at hk
  | ow x =>
    obtain ⟨b, e1, e2, at_⟩ := sl
    cases e1
    cases at_ with
    | lst e r => exact ⟨_, e, .inl ⟨_, rfl⟩⟩
    | dk e q r => exact ⟨_, e, .inr (.inl ⟨_, rfl⟩)⟩
    | dt e q r => exact ⟨_, e, .inr (.inr ⟨_, rfl⟩)⟩
    | ins e q r => simp [svOk] at hk
    | tab g e t => simp [svOk] at hk
theorem own_keep {K : PySem.W.Frag} {W : Addr → Prop} {ω : List (Option Addr)} {μ μ1 μ2 : List Addr} {S S1 : Sto} {env : List Sv} {σ : St} {H H1 H2 : Hp} (rl : Rl K cl W ω μ S env σ H) (h : envOk env = true) (e1 : Ext μ H μ1 H1) (s1 : Sim K cl (Wo W ω) μ1 S1 H1) (e2 : Ext μ1 H1 μ2 H2) {a : Addr} (ha : some a ∈ ω) : ∃ o, H2 a = some o ∧ SqO o ∧ a ∉ μ2 := by
  obtain ⟨o, h1, h2⟩ := own_sq rl h ha
  have n0 : a ∉ μ := fun z => rl.sim.dis a z (.inr ha)
  have g1 := e1.keep a o h1 n0
  have n1 : a ∉ μ1 := fun z => s1.dis a z (.inr ha)
  refine ⟨o, e2.keep a o g1 n1, h2, fun z => ?_⟩
  rcases e2.new a z with z | z
  · exact n1 z
  · rw [g1] at z; cases z
theorem repsL_weak {K : PySem.W.Frag} {W : Addr → Prop} {ω : List (Option Addr)} {μ : List Addr} {S : Sto} {H : Hp} (s : Sim K cl (Wo W ω) μ S H) (hw : ∀ a, some a ∈ ω → ¬ W a) : ∀ {xs : List Vl} {vs : List V}, RepsL K cl W ω μ H xs vs → Reps K cl (Bn W μ) μ H xs vs
  | _, _, .nil => .nil
  | _, _, .cons r t => .cons (by
      rcases r with r | ⟨a, rfl, ha, at_⟩
      · exact r.mono (Kp.weak wo_left)
      · exact (at_.mono (Kp.weak wo_left) fun _ q => q).rep fun z => z.elim (fun z => s.dis a z (.inr ha)) (hw a ha)) (repsL_weak s hw t)
def callL (f : List Vl → Sto → Res Vl) (a : AM) : EM := fun env S => if envOk env = true then (a env S).bind fun xs S1 => (match f xs S1 with
    | .ok x S2 => if nlB x && stOk S2 then .ok x S2 else .bad
    | .exc c ns ys S2 => if nlBs ys && stOk S2 then .exc c ns ys S2 else .bad
    | .bad => .bad) else .bad
theorem call_lt (hn : LenA mA n) {σ : St} {H : Hp} {Q : VK} (h : tD X.K cl E (callL f mA) σ H Q) : tCall (spM X.K cl n f) [] E (tLA X.K cl E mA) σ H Q := by
  obtain ⟨W, ω, μ, S, env, rl, q⟩ := h
  unfold callL at q
  by_cases hk : envOk env = true
  · rw [if_pos hk] at q
    refine ⟨W, ω, μ, S, env, rl, q.bind.mono fun xs S1 μ1 H1 ee s1 e1 q1 vs rs => ?_⟩
    show spM X.K cl n f (vs ++ []) H1 Q E
    rw [List.append_nil]
    refine ⟨W, μ1, S1, xs, s1.weak wo_left, repsL_weak s1 rl.ow rs, hn _ _ _ _ ee, ?_⟩
    have hB : ∀ {μ2 : List Addr} {H2 : Hp}, Ext μ1 H1 μ2 H2 → ∀ a, Wo W ω a → W a ∨ ∃ o, H2 a = some o ∧ SqO o ∧ a ∉ μ2 := fun e2 a z => z.elim .inl fun z => .inr (own_keep rl hk e1 s1 e2 z)
    revert q1
    generalize f xs S1 = r
    intro q1
    cases r with
    | bad => exact q1.elim
    | exc c ns ys S2 =>
      dsimp only at q1
      split at q1
      · rename_i hz
        simp only [Bool.and_eq_true] at hz
        intro μ2 H2 d s2 e2 x
        obtain ⟨fs, x1, x2, x3⟩ := x
        exact q1 μ2 H2 d (s2.ban (hB e2) hz.2) e2 ⟨fs, x1, x2, x3.ban (bn_ban (hB e2)) hz.1⟩
      · exact q1.elim
    | ok x S2 =>
      dsimp only at q1
      split at q1
      · rename_i hz
        simp only [Bool.and_eq_true] at hz
        intro μ2 H2 s2 e2 v rv
        exact q1 μ2 H2 (s2.ban (hB e2) hz.2) e2 v (rv.ban (bn_ban (hB e2)) hz.1)
      · exact q1.elim
  · rw [if_neg hk] at q
    exact q.elim
def makeL (f : Addr → List Vl → Sto → Res Vl) (a : AM) : EM := fun env S => if envOk env = true then (a env S).bind fun xs S1 => (match f 0 xs S1 with
    | .ok x S2 => if nlO x && stOk S2 then .ok x S2 else .bad
    | .exc c ns ys S2 => if nlBs ys && stOk S2 then .exc c ns ys S2 else .bad
    | .bad => .bad) else .bad
theorem make_lt (hb : Blind fi) (hn : LenA mA n) {σ : St} {H : Hp} {Q : VK} (h : tN X.K cl E (makeL fi mA) σ H Q) : tMake (cl c) (spI X.K cl c n fi) [] E (tLA X.K cl E mA) σ H Q := by
  obtain ⟨W, ω, μ, S, env, rl, q⟩ := h
  unfold makeL at q
  by_cases hk : envOk env = true
  · rw [if_pos hk] at q
    refine ⟨W, ω, μ, S, env, rl, q.bind.mono fun xs S1 μ1 H1 ee s1 e1 q1 vs rs x dx hx hdx hne => ?_⟩
    rw [List.append_nil]
    have wn : ∀ a, Wo W [] a → W a := fun a z => z.elim id fun z => by simp at z
    refine make_core (W := W) (ω := []) hb (s1.weak fun a z => .inl (wn a z)) ((repsL_weak s1 rl.ow rs).mono (Kp.weak wn)) (hn _ _ _ _ ee) ?_ x dx hx hdx hne
    have hB : ∀ {μ2 : List Addr} {H2 : Hp}, Ext μ1 H1 μ2 H2 → ∀ a, Wo W ω a → Wo W [] a ∨ ∃ o, H2 a = some o ∧ SqO o ∧ a ∉ μ2 := fun e2 a z => z.elim (fun z => .inl (.inl z)) fun z => .inr (own_keep rl hk e1 s1 e2 z)
    have hB2 : ∀ {μ2 : List Addr} {H2 : Hp}, Ext μ1 H1 μ2 H2 → ∀ p a, Wa (Wo W ω) p a → Wa (Wo W []) p a ∨ ∃ o, H2 a = some o ∧ SqO o ∧ a ∉ μ2 := fun e2 p a z => z.elim (fun z => (hB e2 a z).elim (fun z => .inl (.inl z)) .inr) fun z => .inl (.inr z)
    revert q1
    generalize fi 0 xs S1 = r
    intro q1
    cases r with
    | bad => exact q1.elim
    | exc c ns ys S2 =>
      dsimp only at q1
      split at q1
      · rename_i hz
        simp only [Bool.and_eq_true] at hz
        intro μ2 H2 d s2 e2 x
        obtain ⟨fs, x1, x2, x3⟩ := x
        exact q1 μ2 H2 d (s2.ban (hB e2) hz.2) e2 ⟨fs, x1, x2, x3.ban (bn_ban (hB e2)) hz.1⟩
      · exact q1.elim
    | ok y S2 =>
      dsimp only at q1
      split at q1
      · rename_i hz
        simp only [Bool.and_eq_true] at hz
        intro μ2 H2 s2 e2 p hp sp at_
        exact q1 μ2 H2 (s2.ban (hB e2) hz.2) e2 p (fresh_back e1 hp) (sp.ban (hB2 e2 p) hz.2) (at_.ban (bn_ban (hB2 e2 p)) hz.1)
      · exact q1.elim
  · rw [if_neg hk] at q
    exact q.elim
end
end Dm

set_option Elab.async false
set_option linter.all false
set_option maxRecDepth 100000
set_option autoImplicit false
set_option maxHeartbeats 1000000
/-! DmH: what a law's text needs around the rules: a, b = x, y with own objects; keywords; the head's hook with facts of any kind; the end. -/
namespace Dm
open PySem PySem.Spec L2
section
variable {X : Cx} {cl : Cl} {E : XK} {st : Stmt} {m1 m2 : EM} {i j : Nat}
/-- one more banned object that no name holds -/
theorem Rl.banNew {K : PySem.W.Frag} {W : Addr → Prop} {ω : List (Option Addr)} {μ μ' : List Addr} {S S' : Sto} {env : List Sv} {σ : St} {H H' : Hp} (r : Rl K cl W ω μ S env σ H) (e : Ext μ H μ' H') {a : Addr} (ha : H a = none) (s : Sim K cl (Wa (Wo W ω) a) μ' S' H') : Rl K cl (Wa W a) ω μ' S' env σ H' := by
  have kp : Kp (Bn (Wo W ω) μ) (Bn (Wo (Wa W a) ω) μ') μ μ' H H' := ⟨fun b o q n => ⟨e.keep b o q fun z => n (.inl z), fun z => by
      rcases z with z | z
      · rcases e.new b z with z | z
        · exact n (.inl z)
        · rw [q] at z; cases z
      · rcases (wo_wa b).mpr z with z | z
        · exact n (.inr z)
        · rw [z, ha] at q; cases q⟩, e.pre⟩
  refine ⟨s.weak fun b z => (wo_wa b).mpr z, r.l1, r.l2, fun j ee o s' h1 h2 h3 => (r.at_ j ee o s' h1 h2 h3).mono kp fun b u z q => e.keep b u q fun hm => r.sim.dis b hm (.inr (by rw [← z]; exact List.mem_of_getElem? h2)), r.od, fun b z y => ?_⟩
  rcases y with y | y
  · exact r.ow b z y
  · exact r.sim.trk b (.inr z) (by rw [y]; exact ha)
def parOO (i j : Nat) (m1 m2 : EM) : SM := fun env S => (m1 env S).bind fun x S1 => (m2 env S1).bind fun y S2 => if i < env.length ∧ j < env.length then .ok (.nx ((env.set i (.ow x)).set j (.ow y))) S2 else .bad
def parOV2 (i j : Nat) (m1 m2 : EM) : SM := fun env S => (m1 env S).bind fun x S1 => (m2 env S1).bind fun y S2 => if i < env.length then .ok (.nx ((env.set i (.ow x)).set j (.v y))) S2 else .bad
theorem ds_parOO {t1 t2 : TE} (h : PS X st (tPar i j (tCons t1 (tCons t2 tNil)))) (h1 : ∀ σ H Q, tN X.K cl E m1 σ H Q → t1 σ H Q) (h2 : ∀ σ H Q, tN X.K cl E m2 σ H Q → t2 σ H Q) : PS X st (tS X.K cl E (parOO i j m1 m2)) := h.imp fun D σ H ⟨W, ω, μ, S, env, rl, q⟩ => by
  refine h1 _ _ _ ⟨W, ω, μ, S, env, rl, q.back.mono fun x S1 μ1 H1 _ s1 e1 q1 a ha sa ata => h2 _ _ _ ⟨Wa W a, ω, μ1, S1, env, rl.banNew e1 ha sa, ?_⟩⟩
  revert q1
  generalize m2 env S1 = r
  intro q1
  cases r with
  | bad => exact q1.elim
  | exc c ns ys S2 =>
    intro μ2 H2 d s2 e2 x
    obtain ⟨fs, x1, x2, x3⟩ := x
    have sub : ∀ b, W b → Wo (Wa W a) ω b := fun b z => .inl (.inl z)
    exact q1 μ2 H2 d (s2.weak sub) ((e1.s.trans e2.s).drop fun _ z => nomatch z) ⟨fs, x1, x2, x3.mono (Kp.weak sub)⟩
  | ok y S2 =>
    intro μ2 H2 s2 e2 b hb sb atb
    dsimp only [Res.bind] at q1
    by_cases hl : i < env.length ∧ j < env.length
    · rw [if_pos hl] at q1
      have r1 := rl.setOwn e1 ha sa ata i (by rw [rl.l2, ← rl.l1]; exact hl.1)
      have sub : ∀ z, Wa (Wo W (ω.set i (some a))) b z → Wa (Wo (Wa W a) ω) b z := fun z k => k.elim (fun k => .inl (k.elim (fun k => .inl (.inl k)) fun k => (List.mem_or_eq_of_mem_set k).elim .inr fun k => .inl (.inr (Option.some.inj k)))) .inr
      have r2 := r1.setOwn e2 hb (sb.weak sub) (atb.mono (Kp.weak sub) fun _ q => q) j (by rw [List.length_set, rl.l2, ← rl.l1]; exact hl.2)
      exact ⟨.ref a, .ref b, rfl, q1 _ μ2 _ H2 r2 ((ExtS.ownNew e1 ha).trans (ExtS.ownNew e2 hb))⟩
    · rw [if_neg hl] at q1
      exact q1.elim
theorem ds_parOV {t1 t2 : TE} (h : PS X st (tPar i j (tCons t1 (tCons t2 tNil)))) (h1 : ∀ σ H Q, tN X.K cl E m1 σ H Q → t1 σ H Q) (h2 : ∀ σ H Q, tD X.K cl E m2 σ H Q → t2 σ H Q) : PS X st (tS X.K cl E (parOV2 i j m1 m2)) := h.imp fun D σ H ⟨W, ω, μ, S, env, rl, q⟩ => by
  refine h1 _ _ _ ⟨W, ω, μ, S, env, rl, q.back.mono fun x S1 μ1 H1 _ s1 e1 q1 a ha sa ata => h2 _ _ _ ⟨Wa W a, ω, μ1, S1, env, rl.banNew e1 ha sa, ?_⟩⟩
  revert q1
  generalize m2 env S1 = r
  intro q1
  cases r with
  | bad => exact q1.elim
  | exc c ns ys S2 =>
    intro μ2 H2 d s2 e2 x
    obtain ⟨fs, x1, x2, x3⟩ := x
    have sub : ∀ b, W b → Wo (Wa W a) ω b := fun b z => .inl (.inl z)
    exact q1 μ2 H2 d (s2.weak sub) ((e1.s.trans e2.s).drop fun _ z => nomatch z) ⟨fs, x1, x2, x3.mono (Kp.weak sub)⟩
  | ok y S2 =>
    intro μ2 H2 s2 e2 v rv
    dsimp only [Res.bind] at q1
    by_cases hl : i < env.length
    · rw [if_pos hl] at q1
      have r1 := rl.setOwn e1 ha sa ata i (by rw [rl.l2, ← rl.l1]; exact hl)
      have sub : ∀ z, Wo W (ω.set i (some a)) z → Wo (Wa W a) ω z := fun z k => k.elim (fun k => .inl (.inl k)) fun k => (List.mem_or_eq_of_mem_set k).elim .inr fun k => .inl (.inr (Option.some.inj k))
      have r2 := (r1.ext e2 (s2.weak sub)).set (rv.mono (Kp.weak sub)) j
      exact ⟨.ref a, v, rfl, q1 _ μ2 _ H2 r2 ((ExtS.ownNew e1 ha).trans (e2.s.drop fun _ z => mem_set_none z))⟩
    · rw [if_neg hl] at q1
      exact q1.elim
end
/-! ### what a callee lets out, around a body -/
theorem passB {P : Program} {w : World} {K : PySem.W.Frag} {mg : Str → Option Value} {base : Heap} {N : List Str} {qual : Str} {scope : Scope} {f : Addr} {cdv : Value} {A : Around} {outer : List Env} {s : Shared} {H : Hp} {E : XK} :
    Passes (L2.CX P w) (cxOf (L2.CX P w) P w K mg base N qual scope f cdv A outer s H E) E := passes_call (takes_of rfl rfl rfl rfl) fun _ _ _ _ h => h
theorem passO {P : Program} {w : World} {K : PySem.W.Frag} {mg : Str → Option Value} {base : Heap} {N : List Str} {qual : Str} {scope : Scope} {f : Addr} {cdv : Value} {A : Around} {outer : List Env} {s : Shared} {H : Hp} {E : XK} :
    PassesOwn (model P w) (cxOf (L2.CX P w) P w K mg base N qual scope f cdv A outer s H E).A (cxOf (L2.CX P w) P w K mg base N qual scope f cdv A outer s H E).env (cxOf (L2.CX P w) P w K mg base N qual scope f cdv A outer s H E).xe := passes_of rfl
theorem hu_of {k : Nat} {A : Around} (hr : Room k A) : A.units + 1 < cLine := by have := hr.un; omega
/-! ### keywords -/
section
variable {X : Cx} {cl : Cl} {E : XK} {e : Expr} {m : EM} {mA : AM} {kws : List Keyword} {nm : Option Str} {kpos : Pos}
theorem _root_.L2.PK.imp {t t' : TA} (h : PK X kws t) (k : ∀ σ H Q, t' σ H Q → t σ H Q) : PK X kws t' := ⟨fun pos pins s σ H Q I q => h.run pos pins s σ H Q I (k σ H Q q)⟩
theorem dk_nil : PK X [] (tDA X.K cl E nilA) := pk_nil.imp fun σ H Q ⟨W, ω, μ, S, env, rl, q⟩ => q μ H rl.sim Ext.refl [] .nil
theorem dk_cons (ha : PE X e (tD X.K cl E m)) (hr : PK X kws (tDA X.K cl E mA)) : PK X (⟨nm, e, kpos⟩ :: kws) (tDA X.K cl E (consA m mA)) :=
  (pk_cons ha hr).imp fun σ H Q ⟨W, ω, μ, S, env, rl, q⟩ => ⟨W, ω, μ, S, env, rl, q.bind.mono fun x S1 μ1 H1 _ s1 e1 q1 v rv => ⟨W, ω, μ1, S1, env, rl.ext e1 s1, q1.bind.mono fun xs S2 μ2 H2 _ s2 e2 q2 vs rs => q2 μ2 H2 s2 Ext.refl _ (.cons (rv.mono e2.kp) rs)⟩⟩
/-- the items at the places ix -/
def pick {α : Type} (ix : List Nat) (zs : List α) : List α := ix.filterMap fun i => zs[i]?
theorem pick_reps {K : PySem.W.Frag} {B : Addr → Prop} {μ : List Addr} {H : Hp} {xs : List Vl} {vs : List V} (r : Reps K cl B μ H xs vs) : ∀ ix : List Nat, Reps K cl B μ H (pick ix xs) (pick ix vs)
  | [] => .nil
  | i :: ix => by
    have t := pick_reps r ix
    unfold pick at t ⊢
    cases hx : xs[i]? with
    | none =>
      have hv : vs[i]? = none := by
        rw [List.getElem?_eq_none_iff] at hx ⊢
        rw [← r.length]; exact hx
      rw [List.filterMap_cons, List.filterMap_cons, hx, hv]
      exact t
    | some x =>
      obtain ⟨v, hv, rv⟩ := r.get hx
      rw [List.filterMap_cons, List.filterMap_cons, hx, hv]
      exact .cons rv t
theorem pick_vals {vs : List V} {us : List Value} (r : Vals vs us) : ∀ ix : List Nat, Vals (pick ix vs) (pick ix us)
  | [] => .nil
  | i :: ix => by
    have t := pick_vals r ix
    unfold pick at t ⊢
    cases hx : vs[i]? with
    | none =>
      have hv : us[i]? = none := by
        rw [List.getElem?_eq_none_iff] at hx ⊢
        rw [← r.length]; exact hx
      rw [List.filterMap_cons, List.filterMap_cons, hx, hv]
      exact t
    | some x =>
      obtain ⟨v, hv, rv⟩ := r.get hx
      rw [List.filterMap_cons, List.filterMap_cons, hx, hv]
      exact .cons rv t
end
section
variable {K : PySem.W.Frag} {x qual : Str} {params : Arguments} {body : List Stmt} {scope : Scope} {kws : List (Str × V)} {f : Addr} {fd : FuncData} {ps : List Str}
/-- all parameters by keywords, but for the first n -/
theorem kbindsN (F : FunD K x qual params body scope [] kws f fd) (n : Nat) (ks : List Str) (ix : List Nat)
    (h : ∀ (kV doc pm : Value) (an : Option Addr) (cdv ct : Value) (us ws : List Value), us.length = n → ws.length = ks.length → bindArgs (PySem.W.fnOf x qual params body scope .none kV doc pm an cdv ct) ⟨us, ks.zip ws⟩ = pure (ps.zip (us ++ pick ix ws))) :
    KBn K fd ps n ks (fun us ws => us ++ pick ix ws) (fun vs zs => vs ++ pick ix zs) := by
  obtain ⟨oc, od, dV, kV, doc, pm, an, cdv, ct, osl, rfl, lk, hcd, hD, hK⟩ := F.ex
  rcases hD with ⟨_, rfl⟩ | ⟨e, _⟩
  · exact ⟨fun s us ws _ l1 l2 => .of_eq (h kV doc pm an cdv ct us ws l1 l2), fun r1 r2 => r1.append (pick_vals r2 ix)⟩
  · exact absurd rfl e
end
section
variable {X : Cx} {cl : Cl} {E : XK} {mA : AM} {c n : Nat} {f : Addr → List Vl → Sto → Res Vl} {ix : List Nat}
def makeK (f : Addr → List Vl → Sto → Res Vl) (ix : List Nat) (a : AM) : EM := fun env S => (a env S).bind fun xs S1 => f 0 (pick ix xs) S1
theorem make_kt (hb : Blind f) (hn : LenA mA n) (hi : ∀ xs : List Vl, xs.length = n → (pick ix xs).length = n) {σ : St} {H : Hp} {Q : VK} (h : tN X.K cl E (makeK f ix mA) σ H Q) : tMakeK (cl c) 0 n (spI X.K cl c n f) (fun vs zs => vs ++ pick ix zs) E tNil (tDA X.K cl E mA) σ H Q := by
  obtain ⟨W, ω, μ, S, env, rl, q⟩ := h
  refine ⟨W, ω, μ, S, env, rl, q.bind.mono fun xs S1 μ1 H1 ee s1 e1 q1 vs rs => ⟨rfl, by rw [← rs.length]; exact hn _ _ _ _ ee, fun x dx hx hdx hne => ?_⟩⟩
  exact make_core hb s1 (pick_reps rs ix) (hi _ (hn _ _ _ _ ee)) (q1.mono fun y S2 μ2 H2 _ s2 e2 q2 a ha => q2 a (fresh_back e1 ha)) x dx hx hdx hne
end
section
variable {X : Cx} {cl : Cl} {E : XK} {k n : Nat} {g C : Addr} {fd : FuncData} {ps : List Str} {f : List Vl → Sto → Res Vl} {fi : Addr → List Vl → Sto → Res Vl} {ds : List Value} {dvs : List V} {x : Str} {e : Expr} {es : List Expr} {mA : AM} {p pos : Pos}
theorem d_call (F : FnOk X.prog X.w X.K X.mg X.base (L2.CX X.prog X.w) k g fd ps (spM X.K cl n f)) (hr : Room k X.A) (hg : Gl X x) (hm : X.mg x = some (.ref g)) (hk : PySem.W.keepIn X.K (.ref g) = true) (hb : Binds X.K fd ps []) (hx : Passes (L2.CX X.prog X.w) X E) (ha : PA X (e :: es) (tDA X.K cl E mA)) (hn : LenA mA n)
    (hdb : (x == ("__debug__" : Str)) = false := by decide) (he : starEach (e :: es) X.env = (false, eval e X.env) :: starEach es X.env := by rfl) (hpl : (backTo pos (starEach es X.env)).any (·.1) = false := by rfl) : PE X (.Call (.Name x p) (e :: es) [] pos) (tD X.K cl E (callM f mA)) :=
  (pe_call F hr hg hm hk hb .nil hx ha hdb he hpl).imp fun _ _ _ z => call_t hn z
theorem d_callL (F : FnOk X.prog X.w X.K X.mg X.base (L2.CX X.prog X.w) k g fd ps (spM X.K cl n f)) (hr : Room k X.A) (hg : Gl X x) (hm : X.mg x = some (.ref g)) (hk : PySem.W.keepIn X.K (.ref g) = true) (hb : Binds X.K fd ps []) (hx : Passes (L2.CX X.prog X.w) X E) (ha : PA X (e :: es) (tLA X.K cl E mA)) (hn : LenA mA n)
    (hdb : (x == ("__debug__" : Str)) = false := by decide) (he : starEach (e :: es) X.env = (false, eval e X.env) :: starEach es X.env := by rfl) (hpl : (backTo pos (starEach es X.env)).any (·.1) = false := by rfl) : PE X (.Call (.Name x p) (e :: es) [] pos) (tD X.K cl E (callL f mA)) :=
  (pe_call F hr hg hm hk hb .nil hx ha hdb he hpl).imp fun _ _ _ z => call_lt hn z
theorem d_callD {k2 : Nat} {dl : List Vl} (F : FnOk X.prog X.w X.K X.mg X.base (L2.CX X.prog X.w) k g fd ps (spM X.K cl n f)) (hr : Room k X.A) (hg : Gl X x) (hm : X.mg x = some (.ref g)) (hk : PySem.W.keepIn X.K (.ref g) = true) (hb : Binds X.K fd ps ds) (hd : Vals dvs ds) (hx : Passes (L2.CX X.prog X.w) X E) (ha : PA X (e :: es) (tDA X.K cl E mA)) (hn : LenA mA k2) (hl : k2 + dl.length = n) (hv : ∀ B μ H, Reps X.K cl B μ H dl dvs)
    (hdb : (x == ("__debug__" : Str)) = false := by decide) (he : starEach (e :: es) X.env = (false, eval e X.env) :: starEach es X.env := by rfl) (hpl : (backTo pos (starEach es X.env)).any (·.1) = false := by rfl) : PE X (.Call (.Name x p) (e :: es) [] pos) (tD X.K cl E (callD f dl mA)) :=
  (pe_call F hr hg hm hk hb hd hx ha hdb he hpl).imp fun _ _ _ z => call_td hn hl hv z
theorem d_call0 (F : FnOk X.prog X.w X.K X.mg X.base (L2.CX X.prog X.w) k g fd ps (spM X.K cl 0 f)) (hr : Room k X.A) (hg : Gl X x) (hm : X.mg x = some (.ref g)) (hk : PySem.W.keepIn X.K (.ref g) = true) (hb : Binds X.K fd ps []) (hx : Passes (L2.CX X.prog X.w) X E)
    (hdb : (x == ("__debug__" : Str)) = false := by decide) : PE X (.Call (.Name x p) [] [] pos) (tD X.K cl E (callM f nilA)) :=
  (pe_call0 F hr hg hm hk hb .nil hx hdb).imp fun σ H Q z => by
    obtain ⟨W, ω, μ, S, env, rl, q⟩ := call_t lenA_nil z
    exact q μ H rl.sim Ext.refl [] .nil
variable {c : Nat}
theorem d_make (M : Mk X.K (cl c) g) (F : FnOk X.prog X.w X.K X.mg X.base (L2.CX X.prog X.w) k g fd ps (spI X.K cl c n fi)) (hr : Room (k + 1) X.A) (hg : Gl X x) (hm : X.mg x = some (.ref (cl c))) (hb : Binds X.K fd ps []) (hx : Passes (L2.CX X.prog X.w) X E) (ha : PA X (e :: es) (tDA X.K cl E mA)) (hn : LenA mA n) (hbl : Blind fi)
    (hdb : (x == ("__debug__" : Str)) = false := by decide) (he : starEach (e :: es) X.env = (false, eval e X.env) :: starEach es X.env := by rfl) (hpl : (backTo pos (starEach es X.env)).any (·.1) = false := by rfl) : PE X (.Call (.Name x p) (e :: es) [] pos) (tN X.K cl E (makeM fi mA)) :=
  (pe_make M F hr hg hm hb .nil hx ha hdb he hpl).imp fun _ _ _ z => make_t hbl hn z
theorem d_makeL (M : Mk X.K (cl c) g) (F : FnOk X.prog X.w X.K X.mg X.base (L2.CX X.prog X.w) k g fd ps (spI X.K cl c n fi)) (hr : Room (k + 1) X.A) (hg : Gl X x) (hm : X.mg x = some (.ref (cl c))) (hb : Binds X.K fd ps []) (hx : Passes (L2.CX X.prog X.w) X E) (ha : PA X (e :: es) (tLA X.K cl E mA)) (hn : LenA mA n) (hbl : Blind fi)
    (hdb : (x == ("__debug__" : Str)) = false := by decide) (he : starEach (e :: es) X.env = (false, eval e X.env) :: starEach es X.env := by rfl) (hpl : (backTo pos (starEach es X.env)).any (·.1) = false := by rfl) : PE X (.Call (.Name x p) (e :: es) [] pos) (tN X.K cl E (makeL fi mA)) :=
  (pe_make M F hr hg hm hb .nil hx ha hdb he hpl).imp fun _ _ _ z => make_lt hbl hn z
theorem d_makeK {ks : List Str} {ix : List Nat} {kws : List Keyword} (M : Mk X.K (cl c) g) (F : FnOk X.prog X.w X.K X.mg X.base (L2.CX X.prog X.w) k g fd ps (spI X.K cl c ks.length fi)) (hr : Room (k + 1) X.A) (hg : Gl X x) (hm : X.mg x = some (.ref (cl c))) (hb : KBn X.K fd ps 1 ks (fun us ws => us ++ pick ix ws) (fun vs zs => vs ++ pick ix zs)) (hx : Passes (L2.CX X.prog X.w) X E) (ha : PK X kws (tDA X.K cl E mA)) (hn : LenA mA ks.length) (hbl : Blind fi) (hi : ∀ xs : List Vl, xs.length = ks.length → (pick ix xs).length = ks.length)
    (hall : (backToKw pos (keywordEach kws X.env)).all (·.1.isSome) = true := by rfl) (hks : (backToKw pos (keywordEach kws X.env)).filterMap (·.1) = ks := by rfl) (hdb : (x == ("__debug__" : Str)) = false := by decide)
    (hpl : ((backTo pos (starEach [] X.env)).any (·.1) || (backToKw pos (keywordEach kws X.env)).any (·.1.isNone)) = false := by rfl) : PE X (.Call (.Name x p) [] kws pos) (tN X.K cl E (makeK fi ix mA)) :=
  (pe_makeK0 M F hr hg hm hb hx ha hall hks hdb hpl).imp fun _ _ _ z => make_kt hbl hn hi z
theorem d_meth {nm : Str} {o : Expr} {m : EM} {apos : Pos} {pl : Sem Bool} (ho : PE X o (tD X.K cl E m)) (hc : Cls X.K (cl c)) (hm : Meth X.K (cl c) nm g) (F : FnOk X.prog X.w X.K X.mg X.base (L2.CX X.prog X.w) k g fd ps (spM X.K cl (n + 1) f)) (hr : Room k X.A) (hb : Binds X.K fd ps []) (hx : Passes (L2.CX X.prog X.w) X E) (ha : PA X (e :: es) (tDA X.K cl E mA)) (hn : LenA mA n)
    (hst : starEach (e :: es) X.env = (false, eval e X.env) :: starEach es X.env := by rfl) (hpl : (backTo pos (starEach es X.env)).any (·.1) = false := by rfl)
    (ht : eval (.Call (.Attribute o nm apos) (e :: es) [] pos) X.env = (do
      let ov ← eval o X.env
      standAt apos.atName
      let (f, first) ← holding [ov] (getMethod ov nm pl)
      callWith pos f first (backTo pos (starEach (e :: es) X.env)) (backToKw pos (keywordEach [] X.env))) := by rfl) : PE X (.Call (.Attribute o nm apos) (e :: es) [] pos) (tD X.K cl E (methM c nm f m mA)) :=
  (pe_meth ho hc hm F hr hb .nil hx ha hst hpl ht).imp fun _ _ _ z => meth_t hn z
theorem d_meth0 {nm : Str} {o : Expr} {m : EM} {apos : Pos} {pl : Sem Bool} (ho : PE X o (tD X.K cl E m)) (hc : Cls X.K (cl c)) (hm : Meth X.K (cl c) nm g) (F : FnOk X.prog X.w X.K X.mg X.base (L2.CX X.prog X.w) k g fd ps (spM X.K cl 1 f)) (hr : Room k X.A) (hb : Binds X.K fd ps []) (hx : Passes (L2.CX X.prog X.w) X E)
    (ht : eval (.Call (.Attribute o nm apos) [] [] pos) X.env = (do
      let ov ← eval o X.env
      standAt apos.atName
      let (f, first) ← holding [ov] (getMethod ov nm pl)
      callWith pos f first (backTo pos (starEach [] X.env)) (backToKw pos (keywordEach [] X.env))) := by rfl) : PE X (.Call (.Attribute o nm apos) [] [] pos) (tD X.K cl E (methM c nm f m nilA)) :=
  (pe_meth0 ho hc hm F hr hb .nil hx ht).imp fun _ _ _ z => meth_t0 z
end
/-! ### the head's hook, with facts of any kind -/
abbrev Fx := PySem.W.Frag → Bool
abbrev AlX : Type := Bool × He.AlD
def obsX (fx : List Fx) (fa : List He.Fa) (fn : List He.DefD) (K : PySem.W.Frag) : AlX := (fx.all fun f => f K, He.obsD fa fn K)
def obsXG (n : Nat) (fx : List Fx) (fa : List He.Fa) (fn : List He.DefD) (g : Addr → Option Obj) : AlX := obsX fx fa fn (He.frG g (He.asD g n))
structure SaysX (fx : List Fx) (fa : List He.Fa) (fn : List He.DefD) (K : PySem.W.Frag) : Prop where
  x : (fx.all fun f => f K) = true
  d : He.SaysD fa fn K
def hookX (n : Nat) (fx : List Fx) (fa : List He.Fa) (fn : List He.DefD) : PySem.W.Hook where
  α := AlX
  obs := fun s => obsXG n fx fa fn s.heap.get?
  val := fun _ => (true, He.valD fn)
  says := fun _ h => ∃ K : PySem.W.Frag, K.In h ∧ SaysX fx fa fn K
  of := fun _ _ e => ⟨_, He.frG_in, ⟨congrArg (fun z : AlX => z.1) e, congrArg (fun z : AlX => z.2) e⟩⟩
  keeps := fun _ _ _ ⟨K, hK, c⟩ k => ⟨K, PySem.W.Frag.In.keeps hK k, c⟩
theorem obsXG_eq {n : Nat} {fx : List Fx} {fa : List He.Fa} {fn : List He.DefD} {g : Addr → Option Obj} {s : Shared} (h : ∀ a, g a = s.heap.get? a) : obsXG n fx fa fn g = (hookX n fx fa fn).obs s := by
  have e : g = s.heap.get? := funext h
  rw [e] <;> rfl
theorem SaysX.fx {fx : List Fx} {fa : List He.Fa} {fn : List He.DefD} {K : PySem.W.Frag} (c : SaysX fx fa fn K) (i : Nat) {f : Fx} (h : fx[i]? = some f := by rfl) : f K = true := List.all_eq_true.mp c.x f (List.mem_of_getElem? h)
/-! ### the end -/
theorem walk_ofW {l : PySem.W.OpenLaw} {n k : Nat} {q : Program} {loose : List Str} {XP : (Str → Option Value) → Heap → Prop} {YP : World → Heap → Prop} {d : DefRec} {CX : World → CXT} {x : Str}
    (hn : l.most = some n) (hn2 : n ≤ sizeLine) (hdf : d.params.defaults = []) (hr : Room k callerA)
    (F : ∀ (w : World) (mg : Str → Option Value) (fa : Addr) (h : Heap), YP w h → h.Ns mainGlobals mg → mg d.name = some (.ref fa) →
      ∃ (K : PySem.W.Frag) (fd : FuncData) (sp : Sp), K.In h ∧ (∀ (s : Shared) (u : Value), BindsTo s fd ⟨[u], []⟩ [(x, u)]) ∧
        (∀ (H : Hp) (a : Addr) (ns : List Int), ns.length ≤ n → SqL K H a (ns.map V.int) → sp [.ref a] H (fun v _ => v = .bl true) fun _ _ _ => False) ∧
        ∀ base : Heap, K.In base → base.Ns mainGlobals mg → FnOk l.prog w K mg base (CX w) k fa fd [x] sp)
    (hCX : ∀ (w : World) (H : Hp) (s : Shared) (e : Value) (s' : Shared), CX w [] H s (fun _ _ _ => False) e s' → False) :
    PySem.W.WalkO q loose XP YP l.row.toRowW d [] (fun f vs => PySem.call f vs) := by
  refine Att.attach_call hn hdf fun w s₀ s₁ mg mb fa o pm cd doc a vs ns G Y ho hd hcd hmg hobj hints hlen hg => ?_
  obtain ⟨K, fd, sp, KX, hb, hsp, hF⟩ := F w mg fa _ Y G.T.g hmg
  exact law_call KX G.T.g G.T.b G.T.builtins G.T.nolimit hg hobj hints (Nat.le_trans hlen hn2) hr hF hb (fun H _ hS => hsp H a ns hlen hS) fun H e s' => hCX w H s₁ e s'
theorem noCX {P : Program} {w : World} {H : Hp} {s : Shared} {e : Value} {s' : Shared} (h : L2.CX P w [] H s (fun _ _ _ => False) e s') : False := by
  obtain ⟨_, _, _, _, _, _, _, _, _, _, _, _, z⟩ := h
  exact z
/-- the law's mirror says True -/
theorem sp_law {K : PySem.W.Frag} {cl : Cl} {f : List Vl → Sto → Res Vl} {n : Nat} (h : ∀ ns : List Int, ns.length ≤ n → ∃ S, f [.scr ns] [] = .ok (.bl true) S) (H : Hp) (a : Addr) (ns : List Int) (hl : ns.length ≤ n) (hS : SqL K H a (ns.map V.int)) :
    spM K cl 1 f [.ref a] H (fun v _ => v = .bl true) fun _ _ _ => False := by
  obtain ⟨S, e⟩ := h ns hl
  have s0 : Sim K cl (fun _ => False) [] [] H := ⟨rfl, List.nodup_nil, fun _ h => (nomatch h), fun _ h => False.elim h, fun n x e => (by cases e)⟩
  refine ⟨fun _ => False, [], [], [.scr ns], s0, .cons (.scr ?_) .nil, rfl, ?_⟩
  · rcases hS with h | h
    · exact .inl ⟨h, fun (z : Bn (fun _ => False) [] a) => Or.elim z (fun z => nomatch z) fun z => z⟩
    · exact .inr h
  · rw [e]
    intro μ' H' _ _ v r
    cases r
    rfl
end Dm

set_option Elab.async false
set_option linter.all false
set_option maxRecDepth 100000
set_option autoImplicit false
set_option maxHeartbeats 1000000
/-! DmI: a mirror does not see the new instance's address. -/
namespace Dm
open PySem PySem.Spec L2
def rn (p : Addr) : Sv → Sv
  | .sf _ x => .sf p x
  | s => s
def BE {α : Type} (m : List Sv → Sto → Res α) : Prop := ∀ (p : Addr) (env : List Sv) (S : Sto), m (env.map (rn p)) S = m env S
def Res.mp {α β : Type} (g : α → β) : Res α → Res β
  | .ok a S => .ok (g a) S
  | .exc c ns xs S => .exc c ns xs S
  | .bad => .bad
def rnF (p : Addr) : Fl → Fl
  | .nx e => .nx (e.map (rn p))
  | .bk e => .bk (e.map (rn p))
  | .ct e => .ct (e.map (rn p))
  | .rt x => .rt x
def BS (b : SM) : Prop := ∀ (p : Addr) (env : List Sv) (S : Sto), b (env.map (rn p)) S = (b env S).mp (rnF p)
def BF (f : TF) : Prop := ∀ (p : Addr) (x : Vl) (env : List Sv), f x (env.map (rn p)) = (f x env).map (List.map (rn p))
def BFs (f : TFs) : Prop := ∀ (p : Addr) (x : List Vl) (env : List Sv), f x (env.map (rn p)) = (f x env).map (List.map (rn p))
theorem mp_bind {α β γ : Type} (g : β → γ) (r : Res α) (k : α → Sto → Res β) : (r.bind k).mp g = r.bind fun a S => (k a S).mp g := by cases r <;> rfl
theorem bind_mp {α β γ : Type} (g : α → β) (r : Res α) (k : β → Sto → Res γ) : (r.mp g).bind k = r.bind fun a S => k (g a) S := by cases r <;> rfl
theorem bind_congr {α β : Type} {r : Res α} {k k' : α → Sto → Res β} (h : ∀ a S, k a S = k' a S) : r.bind k = r.bind k' := by
  cases r with
  | ok a S => exact h a S
  | _ => rfl
section
variable {a b c m o : EM} {tA tB tt : TM} {A : AM} {im : IM} {f : F2} {f1 : F1} {fa : FA} {l h : OM}
theorem be_var (i : Nat) : BE (varM i) := fun p env S => by
  unfold varM
  rw [List.getElem?_map]
  cases env[i]? with
  | none => rfl
  | some s => cases s <;> rfl
theorem be_varL (i : Nat) : BE (varL i) := fun p env S => by
  unfold varL
  rw [List.getElem?_map]
  cases env[i]? with
  | none => rfl
  | some s => cases s <;> rfl
theorem be_c (x : Vl) : BE (cM x) := fun _ _ _ => rfl
theorem be_nil : BE nilA := fun _ _ _ => rfl
theorem be_yes : BE yesT := fun _ _ _ => rfl
theorem be_oN : BE oN := fun _ _ _ => rfl
theorem be_oS (ha : BE m) : BE (oS m) := fun p env S => by simp only [oS, ha p env]
theorem be_cons (ha : BE m) (hb : BE A) : BE (consA m A) := fun p env S => by simp only [consA, ha p env, hb p env]
theorem be_bin (ha : BE a) (hb : BE b) : BE (bin2 f a b) := fun p env S => by simp only [bin2, ha p env, hb p env]
theorem be_un (ha : BE a) : BE (un1 f1 a) := fun p env S => by simp only [un1, ha p env]
theorem be_tv (ha : BE a) : BE (tv a) := fun p env S => by simp only [tv, ha p env]
theorem be_tru {ft : FT} (ha : BE a) : BE (tru ft a) := fun p env S => by simp only [tru, ha p env]
theorem be_andT (ha : BE tA) (hb : BE tB) : BE (andT tA tB) := fun p env S => by simp only [andT, ha p env, hb p env]
theorem be_orT (ha : BE tA) (hb : BE tB) : BE (orT tA tB) := fun p env S => by simp only [orT, ha p env, hb p env]
theorem be_notT (ha : BE tA) : BE (notT tA) := fun p env S => by simp only [notT, ha p env]
theorem be_andV (ha : BE a) (hb : BE b) : BE (andV a b) := fun p env S => by simp only [andV, ha p env, hb p env]
theorem be_orV (ha : BE a) (hb : BE b) : BE (orV a b) := fun p env S => by simp only [orV, ha p env, hb p env]
theorem be_notV (ha : BE a) : BE (notV a) := fun p env S => by simp only [notV, ha p env]
theorem be_if (hc : BE tt) (ha : BE a) (hb : BE b) : BE (ifM tt a b) := fun p env S => by simp only [ifM, hc p env, ha p env, hb p env]
theorem be_ch {g : F2} (ha : BE a) (hb : BE b) (hc : BE c) : BE (ch3 f g a b c) := fun p env S => by simp only [ch3, hc p env, ha p env, hb p env]
theorem be_tup (ha : BE A) : BE (tupM A) := fun p env S => by simp only [tupM, ha p env]
theorem be_lst (ha : BE A) : BE (lstM A) := fun p env S => by simp only [lstM, ha p env]
theorem be_cB (ha : BE A) : BE (cB fa A) := fun p env S => by simp only [cB, ha p env]
theorem be_call {g : List Vl → Sto → Res Vl} (ha : BE A) : BE (callM g A) := fun p env S => by simp only [callM, ha p env]
theorem be_callD {g : List Vl → Sto → Res Vl} {ds : List Vl} (ha : BE A) : BE (callD g ds A) := fun p env S => by simp only [callD, ha p env]
theorem be_make {g : Addr → List Vl → Sto → Res Vl} (ha : BE A) : BE (makeM g A) := fun p env S => by simp only [makeM, ha p env]
theorem be_sl (ha : BE a) (hl : BE l) (hh : BE h) : BE (slM a l h) := fun p env S => by simp only [slM, ha p env, hl p env, hh p env]
theorem be_slN (ha : BE a) (hl : BE l) (hh : BE h) : BE (slN a l h) := fun p env S => by simp only [slN, ha p env, hl p env, hh p env]
theorem be_isi {ts : List Ty} (ha : BE a) : BE (isiM ts a) := fun p env S => by simp only [isiM, ha p env]
theorem be_iso {ds cs : List Nat} (ha : BE a) : BE (isoM ds cs a) := fun p env S => by simp only [isoM, ha p env]
theorem be_fld {k : Nat} {x : Str} (ha : BE a) : BE (fldM k x a) := fun p env S => by simp only [fldM, ha p env]
theorem be_meth {k : Nat} {x : Str} {g : List Vl → Sto → Res Vl} (ha : BE a) (hb : BE A) : BE (methM k x g a A) := fun p env S => by simp only [methM, ha p env, hb p env]
theorem be_seqI (ha : BE a) : BE (seqI a) := fun p env S => by simp only [seqI, ha p env]
theorem be_strI (ha : BE a) : BE (strI a) := fun p env S => by simp only [strI, ha p env]
theorem be_rngI (ha : BE A) : BE (rngI A) := fun p env S => by simp only [rngI, ha p env]
theorem be_enI (ha : BE A) : BE (enI A) := fun p env S => by simp only [enI, ha p env]
theorem be_zpI (ha : BE A) : BE (zpI A) := fun p env S => by simp only [zpI, ha p env]
theorem wipe_rn (p : Addr) : ∀ (vs : List Nat) (env : List Sv), wipeE vs (env.map (rn p)) = (wipeE vs env).map (List.map (rn p))
  | [], _ => rfl
  | v :: vs, env => by
    unfold wipeE
    rw [wipe_rn p vs env]
    cases wipeE vs env with
    | none => rfl
    | some e1 =>
      dsimp only [Option.map_some]
      rw [List.getElem?_map]
      have e : (e1.map (rn p)).set v .un = (e1.set v .un).map (rn p) := by rw [List.map_set] <;> rfl
      cases hv : e1[v]? with
      | none => exact congrArg some e
      | some s => cases s <;> first | rfl | exact congrArg some e
theorem comp_rn {g : TF} (hf : BF g) (ht : BE tt) (he : BE m) (p : Addr) (env : List Sv) : ∀ (xs : List Vl) (S : Sto), compL g tt m (env.map (rn p)) xs S = compL g tt m env xs S
  | [], _ => rfl
  | x :: xs, S => by
    unfold compL
    rw [hf p x env]
    cases g x env with
    | none => rfl
    | some e1 =>
      show ((tt (e1.map (rn p)) S).nox.bind fun k S1 => if k then (m (e1.map (rn p)) S1).nox.bind fun y S2 => (compL g tt m (env.map (rn p)) xs S2).bind fun ys S3 => .ok (y :: ys) S3 else compL g tt m (env.map (rn p)) xs S1) = _
      simp only [ht p e1, he p e1, comp_rn hf ht he p env xs]
theorem be_comp {vs : List Nat} {g : TF} (hi : BE im) (hf : BF g) (ht : BE tt) (he : BE m) : BE (compM im vs g tt m) := fun p env S => by
  unfold compM
  rw [hi p env]
  refine bind_congr fun xs S1 => ?_
  rw [wipe_rn]
  cases wipeE vs env with
  | none => rfl
  | some e1 =>
    dsimp only [Option.map_some]
    rw [comp_rn hf ht he]
theorem bf_n (i : Nat) : BF (tfN i) := fun p x env => by
  unfold tfN
  show some ((env.map (rn p)).set i (.v x)) = some ((env.set i (.v x)).map (rn p))
  rw [List.map_set] <;> rfl
theorem bfs_nil : BFs tfNil := fun p x env => by cases x <;> rfl
theorem bfs_cons {g : TF} {gs : TFs} (h1 : BF g) (h2 : BFs gs) : BFs (tfCons g gs) := fun p x env => by
  cases x with
  | nil => rfl
  | cons y ys =>
    unfold tfCons
    dsimp only
    rw [h1 p y env]
    cases g y env with
    | none => rfl
    | some e1 => exact h2 p ys e1
theorem bf_t {gs : TFs} (h : BFs gs) : BF (tfT gs) := fun p x env => by
  cases x <;> first | exact h p _ env | rfl
variable {s1 s2 : SM} {i : Nat}
theorem bs_nil : BS nilS := fun _ _ _ => rfl
theorem bs_bad : BS (fun _ _ => .bad) := fun _ _ _ => rfl
theorem bs_seq (h1 : BS s1) (h2 : BS s2) : BS (seqS s1 s2) := fun p env S => by
  unfold seqS
  rw [h1 p env, bind_mp, mp_bind]
  refine bind_congr fun fl S1 => ?_
  cases fl <;> first | exact h2 p _ S1 | rfl
theorem bs_expr (ha : BE m) : BS (exprS m) := fun p env S => by
  unfold exprS
  rw [ha p env, mp_bind]
  exact bind_congr fun _ _ => rfl
theorem bs_set (ha : BE m) : BS (setS i m) := fun p env S => by
  unfold setS
  rw [ha p env, mp_bind]
  refine bind_congr fun x S1 => ?_
  show Res.ok (Fl.nx ((env.map (rn p)).set i (.v x))) S1 = .ok (.nx ((env.set i (.v x)).map (rn p))) S1
  rw [List.map_set] <;> rfl
theorem bs_own (ha : BE m) : BS (ownS i m) := fun p env S => by
  unfold ownS
  rw [ha p env, mp_bind]
  refine bind_congr fun x S1 => ?_
  show Res.ok (Fl.nx ((env.map (rn p)).set i (.ow x))) S1 = .ok (.nx ((env.set i (.ow x)).map (rn p))) S1
  rw [List.map_set] <;> rfl
theorem bs_if (hc : BE tt) (h1 : BS s1) (h2 : BS s2) : BS (ifS tt s1 s2) := fun p env S => by
  unfold ifS
  rw [hc p env, mp_bind]
  refine bind_congr fun k S1 => ?_
  cases k
  · exact h2 p env S1
  · exact h1 p env S1
theorem bs_sf {k : Nat} {x : Str} (ha : BE m) : BS (sfS k x i m) := fun p env S => by
  unfold sfS
  rw [ha p env, mp_bind]
  refine bind_congr fun y S1 => ?_
  rw [List.getElem?_map]
  cases env[i]? with
  | none => rfl
  | some s =>
    cases s with
    | sf q z =>
      cases z with
      | ins d ns xs =>
        show (if d = k ∧ ns.length < 1000 then Res.ok (Fl.nx ((env.map (rn p)).set i (.sf p (.ins k (fPut ns xs x y).1 (fPut ns xs x y).2)))) S1 else .bad) = (if d = k ∧ ns.length < 1000 then Res.ok (Fl.nx (env.set i (.sf q (.ins k (fPut ns xs x y).1 (fPut ns xs x y).2)))) S1 else .bad).mp (rnF p)
        split
        · show Res.ok (Fl.nx ((env.map (rn p)).set i _)) S1 = .ok (.nx ((env.set i _).map (rn p))) S1
          rw [List.map_set] <;> rfl
        · rfl
      | _ => rfl
    | _ => rfl
theorem rn_start (N k : Nat) (a p : Addr) (xs : List Vl) : (startI N k a xs).map (rn p) = startI N k p xs := by
  unfold startI
  simp [rn, List.map_append, List.map_map, Function.comp_def, List.map_replicate]
theorem blind_of {N k : Nat} (h : BS s1) : Blind (runI N k s1) := fun a b xs S => by
  unfold runI
  have ha := h a (startI N k a xs) S
  have hb := h b (startI N k a xs) S
  rw [rn_start] at ha hb
  rw [hb, bind_mp]
  revert ha
  generalize s1 (startI N k a xs) S = r
  intro ha
  cases r with
  | bad => rfl
  | exc c ns ys S' => rfl
  | ok fl S' =>
    cases fl with
    | nx env =>
      have e : env = env.map (rn a) := by
        have := congrArg (fun z : Res Fl => match z with | .ok (.nx e) _ => e | _ => []) ha
        exact this
      show (match selfOf a env with | some x => Res.ok x S' | none => .bad) = (match selfOf b (env.map (rn b)) with | some x => Res.ok x S' | none => .bad)
      have z : selfOf a env = selfOf b (env.map (rn b)) := by
        rw [e]
        cases env with
        | nil => rfl
        | cons s t =>
          cases s with
          | sf q x =>
            show (if a = a then some x else none) = (if b = b then some x else none)
            simp
          | _ => rfl
      rw [z]
    | _ => rfl
end
end Dm

set_option Elab.async false
set_option linter.all false
set_option maxRecDepth 100000
set_option autoImplicit false
set_option maxHeartbeats 1000000
/-! DmL: own exceptions raised and caught; += ; a, b = x, y with cells; {} ; lists handed out to be changed. -/
namespace Dm
open PySem PySem.Spec L2
/-! ### what the text says of an own exception class -/
def oexB (K : PySem.W.Frag) (C : Addr) : Bool := match K.lookup C with
  | some ⟨.type "type", _, .cls cd, sl⟩ => (match cd.mro, sl.toList with
    | .ref C' :: bm, [_, _, _, _, some (.builtin n), _] => C' == C && n == "ValueError.__new__" && !cd.hasDel && cd.hasDict && PySem.HandSPX.refsVE bm
    | _, _ => false)
  | _ => false
theorem oexB_ok {K : PySem.W.Frag} {C : Addr} (q : oexB K C = true) : ∃ nm q N bs bm sn sub ab col dd k0 k1 k2 k3 k5, K.lookup C = some (excClassObj nm q C N bs bm true sn sub ab col dd k0 k1 k2 k3 k5 "ValueError.__new__") ∧ PySem.HandSPX.refsVE bm = true := by
  unfold oexB at q
  split at q
  · rename_i dd cd sl ho
    split at q
    · rename_i C' bm k0 k1 k2 k3 n k5 hm hs
      simp only [Bool.and_eq_true, beq_iff_eq, Bool.not_eq_true'] at q
      obtain ⟨⟨⟨⟨rfl, rfl⟩, hdel⟩, hdi⟩, ht⟩ := q
      obtain ⟨nm, bs, mro, ns, qn, hd, sn, sub, ab, col, del⟩ := cd
      dsimp only at hm hdel hdi
      subst hm hdel hdi
      have hsl : sl = #[k0, k1, k2, k3, some (.builtin "ValueError.__new__"), k5] := by
        obtain ⟨l⟩ := sl
        simp only at hs
        rw [hs]
      subst hsl
      exact ⟨nm, qn, ns, bs, bm, sn, sub, ab, col, dd, k0, k1, k2, k3, k5, ho, ht⟩
    · cases q
  · cases q
structure Oe (K : PySem.W.Frag) (C fI : Addr) : Prop where
  oc : OexC K C
  iC : PySem.W.findIn K (.ref C) "__init__" = some (some (.ref fI))
  tI : PySem.W.typeIn K (.ref fI) = some (.type "function")
  xf : XfC K C
/-- an own exception class with its own __init__ -/
def fx_oex (C : Str) : Fx := fun K => oexB K (He.ga K C) && (He.eqO (PySem.W.findIn K (.ref (He.ga K C)) "__setattr__") (some (some (.builtin "object.__setattr__"))) && (decide (PySem.W.subIn K (.ref (He.ga K C)) (.type "BaseException") = some true) &&
  (decide (PySem.W.typeIn K (.ref (He.ga K C)) = some (.type "type")) && (PySem.W.keepIn K (.ref (He.ga K C)) && (He.eqO (PySem.W.findIn K (.ref (He.ga K C)) "__init__") (some (some (.ref (He.fAd K (C, some "__init__"))))) &&
    (decide (PySem.W.typeIn K (.ref (He.fAd K (C, some "__init__"))) = some (.type "function")) && xfB K (He.ga K C)))))))
theorem fx_oex_ok {C : Str} {K : PySem.W.Frag} (h : fx_oex C K = true) : Oe K (He.ga K C) (He.fAd K (C, some "__init__")) := by
  obtain ⟨h1, h⟩ := He.ba h
  obtain ⟨h2, h⟩ := He.ba h
  obtain ⟨h3, h⟩ := He.ba h
  obtain ⟨h4, h⟩ := He.ba h
  obtain ⟨h5, h⟩ := He.ba h
  obtain ⟨h6, h⟩ := He.ba h
  obtain ⟨h7, h8⟩ := He.ba h
  exact ⟨⟨oexB_ok h1, He.eqO_ok h2, of_decide_eq_true h3, of_decide_eq_true h4, h5⟩, He.eqO_ok h6, of_decide_eq_true h7, xfB_ok h8⟩
/-- a field that the class has not -/
def fx_no (C f : Str) : Fx := fun K => He.eqO (PySem.W.findIn K (.ref (He.ga K C)) f) (some none)
theorem fx_no_ok {C f : Str} {K : PySem.W.Frag} (h : fx_no C f K = true) : PySem.W.findIn K (.ref (He.ga K C)) f = some none := He.eqO_ok h
/-- D.__init__, D the base class of the package's exceptions -/
def aeiB (K : PySem.W.Frag) (D : Addr) : Bool := He.eqO (PySem.W.specialIn K (.ref D) "__getattribute__") (some (some (.builtin "type.__getattribute__"))) && (PySem.W.readsIn K D (.type "type") && (match PySem.W.findCls K (.ref D) (.type "type") "__init__" with
  | some (.val (.builtin n)) => n == "ValueError.__init__"
  | _ => false))
def fx_aei (D : Str) : Fx := fun K => aeiB K (He.ga K D)
structure Aei (K : PySem.W.Frag) (D : Addr) : Prop where
  sp : PySem.W.specialIn K (.ref D) "__getattribute__" = some (some (.builtin "type.__getattribute__"))
  rd : PySem.W.readsIn K D (.type "type") = true
  fi : PySem.W.findCls K (.ref D) (.type "type") "__init__" = some (.val (.builtin "ValueError.__init__"))
theorem aeiB_ok {K : PySem.W.Frag} {D : Addr} (h : aeiB K D = true) : Aei K D := by
  obtain ⟨h1, h⟩ := He.ba h
  obtain ⟨h2, h3⟩ := He.ba h
  refine ⟨He.eqO_ok h1, h2, ?_⟩
  split at h3
  · rename_i n e
    rw [e, beq_iff_eq.mp h3]
  · cases h3
theorem fx_aei_ok {D : Str} {K : PySem.W.Frag} (h : fx_aei D K = true) : Aei K (He.ga K D) := aeiB_ok h
/-- except clauses: an error of the class a is caught by «except b» -/
def fx_exm (a b : Str) (k : Bool) : Fx := fun K => decide (PySem.W.exmOne K (.ref (He.ga K a)) (.ref (He.ga K b)) = some k)
theorem fx_exm_ok {a b : Str} {k : Bool} {K : PySem.W.Frag} (h : fx_exm a b k K = true) : PySem.W.exmOne K (.ref (He.ga K a)) (.ref (He.ga K b)) = some k := of_decide_eq_true h

section
variable {X : Cx} {e : Expr} {es : List Expr} {ta : TA} {p1 p2 pos : Pos}
theorem pe_aeinit {x : Str} {B : Addr} {pl : Sem Bool} (hg : Gl X x) (hm : X.mg x = some (.ref B)) (T0 : Aei X.K B) (ha : PA X (e :: es) ta) (hdb : (x == ("__debug__" : Str)) = false := by decide)
    (hc : eval (.Call (.Attribute (.Name x p1) "__init__" p2) (e :: es) [] pos) X.env = (do
      let ov ← eval (.Name x p1) X.env
      standAt p2.atName
      let (f, first) ← holding [ov] (getMethod ov "__init__" pl)
      callWith pos f first (backTo pos (starEach (e :: es) X.env)) (backToKw pos (keywordEach [] X.env))) := by rfl)
    (he : starEach (e :: es) X.env = (false, eval e X.env) :: starEach es X.env := by rfl) (hpl : (backTo pos (starEach es X.env)).any (·.1) = false := by rfl) :
    PE X (.Call (.Attribute (.Name x p1) "__init__" p2) (e :: es) [] pos) (tVeI X.K ta) := by
  refine ⟨fun pins s σ H Q I h => ?_⟩
  refine PySem.W.methodCall_KW (ld_glob I hg hm ?_ hdb) hc
  refine PySem.W.method_cls I.kIn T0.sp (PySem.W.cls_value I.kIn T0.rd T0.fi (by decide +kernel) ?_)
  show wpAny _ _ (callWith pos (Value.builtin "ValueError.__init__") [] (backTo pos (starEach (e :: es) X.env)) []) _ _ _
  refine PyProof.Rows.callWith_method1 (thn (ha.run pos pins _ σ H _ (I.tok _) h) fun us s1 ⟨vs, H1, I1, r1, a, C, ws, ev, hl, T, ea, q⟩ => ?_) he hpl
  subst ev
  cases r1 with
  | @cons _ u0 _ ur ra rw' =>
    obtain rfl : u0 = Value.ref a := ra
    have hlen : ur.length ≤ sizeLine := by
      rw [← Paired.length rw', sizeLine_eq]
      omega
    exact oinit_ok T I1 ea hlen fun s' J => ⟨.non, H1, J, rfl, q⟩
end
/-! ### the __init__ of an exception with one field, or two -/
def spX1 (C : Addr) (f : Str) : Sp := fun vs H Q _ => ∃ a y, vs = [.ref a, y] ∧ H a = some (exo a C none) ∧ ∀ dx, H dx = none → dx ≠ a → Q .non (upd (upd H dx (exd dx [(f, y)])) a (exo a C (some dx)))
def spX2 (C : Addr) (f g : Str) : Sp := fun vs H Q _ => ∃ a y z, vs = [.ref a, y, z] ∧ H a = some (exo a C none) ∧
  ∀ dx, H dx = none → dx ≠ a → Q .non (upd (upd (upd H dx (exd dx [(f, y)])) a (exo a C (some dx))) dx (exd dx [(g, z), (f, y)]))
section
variable {P : Program} {w : World} {K : PySem.W.Frag} {mg : Str → Option Value} {base : Heap} {x qual : Str} {params : Arguments} {body : List Stmt} {scope : Scope} {f : Addr} {fd : FuncData} {k : Nat} {C : Addr} {msg : Str}
theorem exi1 {p fl : Str} (F : FunD K x qual params body scope [] [] f fd) (S : FnScope ["self", p] ["self", p] scope) (T : OexC K C) (hno : PySem.W.findIn K (.ref C) fl = some none)
    (h : ∀ (cdv : Value) (A : Around) (outer : List Env) (s : Shared) (H : Hp) (E : XK), Room k (A.deeper (PyProof.Rows.envOfC qual scope s.heap.objs.size f cdv)) → PSs (cxOf (L2.CX P w) P w K mg base ["self", p] qual scope f cdv A outer s H E) body
      (tSeq (tDrop (tVeI K (tCons (tVar 0) (tCons (tC (.str msg)) tNil)))) (tOst K fl (tVar 0) (tVar 1)))) : FnOk P w K mg base (L2.CX P w) (k + 1) f fd ["self", p] (spX1 C fl) :=
  F.ok S (fun vs H Q E ⟨a, y, e, _⟩ => by rw [e] <;> rfl) fun cdv A outer s H vs Q E hr ⟨a, y, e, ha, q⟩ => ⟨_, h cdv A outer s H E hr, by
    subst e
    exact ⟨.ref a, rfl, a, C, [.str msg], rfl, by simp, T, ha, y, rfl, .ref a, rfl, a, C, rfl, T, hno, .inl ⟨ha, q⟩⟩⟩
theorem exi2 {p p' fl gl : Str} (F : FunD K x qual params body scope [] [] f fd) (S : FnScope ["self", p, p'] ["self", p, p'] scope) (T : OexC K C) (hno : PySem.W.findIn K (.ref C) fl = some none) (hno' : PySem.W.findIn K (.ref C) gl = some none)
    (h : ∀ (cdv : Value) (A : Around) (outer : List Env) (s : Shared) (H : Hp) (E : XK), Room k (A.deeper (PyProof.Rows.envOfC qual scope s.heap.objs.size f cdv)) → PSs (cxOf (L2.CX P w) P w K mg base ["self", p, p'] qual scope f cdv A outer s H E) body
      (tSeq (tDrop (tVeI K (tCons (tVar 0) (tCons (tC (.str msg)) tNil)))) (tSeq (tOst K fl (tVar 0) (tVar 1)) (tOst K gl (tVar 0) (tVar 2))))) : FnOk P w K mg base (L2.CX P w) (k + 1) f fd ["self", p, p'] (spX2 C fl gl) :=
  F.ok S (fun vs H Q E ⟨a, y, z, e, _⟩ => by rw [e] <;> rfl) fun cdv A outer s H vs Q E hr ⟨a, y, z, e, ha, q⟩ => ⟨_, h cdv A outer s H E hr, by
    subst e
    refine ⟨.ref a, rfl, a, C, [.str msg], rfl, by simp, T, ha, y, rfl, .ref a, rfl, a, C, rfl, T, hno, .inl ⟨ha, fun dx h1 h2 => ?_⟩⟩
    exact ⟨z, rfl, .ref a, rfl, a, C, rfl, T, hno', .inr ⟨dx, [(fl, y)], upd_same, by rw [upd_ne h2, upd_same], by simp, q dx h1 h2⟩⟩⟩
end
/-! ### raise -/
def raiS (c : Nat) (ns : List Str) (mA : AM) : SM := fun env S => (mA env S).bind fun xs S1 => .exc c ns xs.reverse S1
section
variable {X : Cx} {cl : Cl} {E : XK} {c k : Nat} {fI : Addr} {fd : FuncData} {ps : List Str} {x : Str} {e : Expr} {es : List Expr} {mA : AM} {p pos pos' : Pos}
theorem heap_x {H1 : Hp} {a dx : Addr} {A B C D : HO} (ha : H1 a = none) : upd (del (upd (upd (upd H1 a A) dx B) a C) a) dx D = upd H1 dx D := by
  funext b
  by_cases h : b = dx
  · rw [h, upd_same, upd_same]
  · rw [upd_ne h, upd_ne h]
    by_cases h2 : b = a
    · rw [h2, del_same, ha]
    · rw [del_ne h2, upd_ne h2, upd_ne h, upd_ne h2]
theorem heap_x2 {H1 : Hp} {a dx : Addr} {A B C D F : HO} (ha : H1 a = none) : upd (del (upd (upd (upd (upd H1 a A) dx B) a C) dx F) a) dx D = upd H1 dx D := by
  funext b
  by_cases h : b = dx
  · rw [h, upd_same, upd_same]
  · rw [upd_ne h, upd_ne h]
    by_cases h2 : b = a
    · rw [h2, del_same, ha]
    · rw [del_ne h2, upd_ne h, upd_ne h2, upd_ne h, upd_ne h2]
theorem ds_raise1 {f : Str} (hc : X.calm = true) (tk : Takes X fun cls d _ H => E cls d H) (O : Oe X.K (cl c) fI) (F1 : FnOk X.prog X.w X.K X.mg X.base (L2.CX X.prog X.w) k fI fd ps (spX1 (cl c) f)) (hr : Room (k + 1) X.A) (hb : Binds X.K fd ps []) (hg : Gl X x) (hm : X.mg x = some (.ref (cl c)))
    (ha : PA X (e :: es) (tDA X.K cl E mA)) (hn : LenA mA 1) (hdb : (x == ("__debug__" : Str)) = false := by decide) (he : starEach (e :: es) X.env = (false, eval e X.env) :: starEach es X.env := by rfl) (hpl : (backTo pos (starEach es X.env)).any (·.1) = false := by rfl) :
    PS X (.Raise (some (.Call (.Name x p) (e :: es) [] pos)) none pos') (tS X.K cl E (raiS c [f] mA)) :=
  (ps_raise hc tk (pmk_oex O.oc O.iC O.tI F1 hr hb .nil (passes_call takes_none5 fun _ _ _ _ h => h) hg hm ha hdb he hpl)).imp fun D σ H ⟨W, ω, μ, S, env, rl, q⟩ => by
    refine ⟨W, ω, μ, S, env, rl, q.ofG.mono fun xs S1 μ1 H1 ee s1 e1 q1 vs rs => ?_⟩
    have hl := hn _ _ _ _ ee
    obtain ⟨x0, rfl⟩ : ∃ x0, xs = [x0] := by
      match xs, hl with
      | [x0], _ => exact ⟨x0, rfl⟩
    cases rs with
    | @cons _ _ y _ r0 rn =>
      cases rn
      refine ⟨by simp, fun a ha1 => ⟨a, y, rfl, upd_same, fun dx h1 h2 => ⟨rfl, dx, [(f, y)], upd_same, by rw [upd_ne h2, upd_same], by rw [upd_ne h2] at h1; exact h1, ?_⟩⟩⟩
      have hdx : H1 dx = none := by rw [upd_ne h2] at h1; exact h1
      rw [heap_x ha1]
      exact q1 μ1 _ dx ((s1.fresh hdx).weak wo_left) ((Ext.fresh hdx).s.drop fun _ z => nomatch z) ⟨_, upd_same, rfl, .cons ((r0.mono (Ext.fresh hdx).kp).mono (Kp.weak wo_left)) .nil⟩
theorem ds_raise2 {f g : Str} (hc : X.calm = true) (tk : Takes X fun cls d _ H => E cls d H) (O : Oe X.K (cl c) fI) (F1 : FnOk X.prog X.w X.K X.mg X.base (L2.CX X.prog X.w) k fI fd ps (spX2 (cl c) f g)) (hr : Room (k + 1) X.A) (hb : Binds X.K fd ps []) (hg : Gl X x) (hm : X.mg x = some (.ref (cl c)))
    (ha : PA X (e :: es) (tDA X.K cl E mA)) (hn : LenA mA 2) (hdb : (x == ("__debug__" : Str)) = false := by decide) (he : starEach (e :: es) X.env = (false, eval e X.env) :: starEach es X.env := by rfl) (hpl : (backTo pos (starEach es X.env)).any (·.1) = false := by rfl) :
    PS X (.Raise (some (.Call (.Name x p) (e :: es) [] pos)) none pos') (tS X.K cl E (raiS c [g, f] mA)) :=
  (ps_raise hc tk (pmk_oex O.oc O.iC O.tI F1 hr hb .nil (passes_call takes_none5 fun _ _ _ _ h => h) hg hm ha hdb he hpl)).imp fun D σ H ⟨W, ω, μ, S, env, rl, q⟩ => by
    refine ⟨W, ω, μ, S, env, rl, q.ofG.mono fun xs S1 μ1 H1 ee s1 e1 q1 vs rs => ?_⟩
    have hl := hn _ _ _ _ ee
    obtain ⟨x0, x1, rfl⟩ : ∃ x0 x1, xs = [x0, x1] := by
      match xs, hl with
      | [x0, x1], _ => exact ⟨x0, x1, rfl⟩
    cases rs with
    | @cons _ _ y _ r0 rn =>
      cases rn with
      | @cons _ _ z _ r1 rn =>
        cases rn
        refine ⟨by simp, fun a ha1 => ⟨a, y, z, rfl, upd_same, fun dx h1 h2 => ⟨rfl, dx, [(g, z), (f, y)], by rw [upd_ne (Ne.symm h2), upd_same], upd_same, by rw [upd_ne h2] at h1; exact h1, ?_⟩⟩⟩
        have hdx : H1 dx = none := by rw [upd_ne h2] at h1; exact h1
        rw [heap_x2 ha1]
        have k := fun {x : Vl} {v : V} (r : Rep X.K cl (Bn (Wo W ω) μ1) μ1 H1 x v) => (r.mono (Ext.fresh (o := HO.xd [(g, z), (f, y)]) hdx).kp).mono (Kp.weak (wo_left (W := W) (ω := ω)))
        exact q1 μ1 _ dx ((s1.fresh hdx).weak wo_left) ((Ext.fresh hdx).s.drop fun _ z => nomatch z) ⟨_, upd_same, rfl, .cons (k r1) (.cons (k r0) .nil)⟩
end
/-! ### x += e of integers -/
def addIF : F2 := fun _ x y => match x, y with
  | .int a, .int b => some (.int (a + b))
  | _, _ => none
section
variable {X : Cx} {cl : Cl} {E : XK} {st : Stmt} {m : EM} {i : Nat}
theorem ds_aug {te : TE} (h : PS X st (tAug i te (ipI fun a b => a + b))) (hi : ∀ σ H Q, tD X.K cl E m σ H Q → te σ H Q) : PS X st (tS X.K cl E (setS i (bin2 addIF (varM i) m))) := h.imp fun D σ H ⟨W, ω, μ, S, env, rl, q⟩ => by
  unfold setS bin2 varM at q
  cases he : env[i]? with
  | none => rw [he] at q; exact q.elim
  | some z =>
    rw [he] at q
    cases z with
    | un => exact q.elim
    | ow x => exact q.elim
    | sf a x => exact q.elim
    | v x =>
      obtain ⟨o, s, h1, h2, _, v, h4, h5⟩ := rl.slot he
      subst h4
      refine ⟨v, h2, hi _ _ _ ⟨W, ω, μ, S, env, rl, ?_⟩⟩
      have q' : SatF X.K cl W ω μ H (((m env S).bind fun y S2 => (match addIF S2 x y with | some v => Res.ok v S2 | none => .bad)).bind fun x S1 => .ok (.nx (env.set i (.v x))) S1) D E := q
      refine SatG.mono (SatG.bind (SatF.ofG q')) fun y S2 μ2 H2 _ s2 e2 q2 u ru => ?_
      cases hz : addIF S2 x y with
      | none => rw [hz] at q2; exact q2.elim
      | some z =>
        rw [hz] at q2
        cases x with
        | int a =>
          cases y with
          | int b =>
            cases hz
            cases h5
            cases ru
            exact ⟨a, b, rfl, rfl, q2 μ2 H2 s2 Ext.refl _ _ _ _ ((rl.ext e2 s2).set (.int (a + b)) i) (ExtS.refl.drop fun _ z => mem_set_none z)⟩
          | _ => cases hz
        | _ => cases hz
end
end Dm

set_option Elab.async false
set_option linter.all false
set_option maxRecDepth 100000
set_option autoImplicit false
set_option maxHeartbeats 1000000
/-! DmM: a, b = x, y with cells; {} ; lists handed out to be changed; try. -/
namespace Dm
open PySem PySem.Spec L2
/-! ### a, b = x, y through a tuple -/
section
variable {X : Cx} {cl : Cl} {E : XK} {st : Stmt} {m1 m2 : EM} {i j : Nat}
theorem SatF.fr {K : PySem.W.Frag} {W : Addr → Prop} {ω : List (Option Addr)} {μ : List Addr} {H : Hp} {r : Res Fl} {D : Ends} (h : SatF K cl W ω μ H r D E) : SatF K cl W ω μ H r { D with nx := fun σ' H1 => ∀ p xs, H1 p = none → D.nx σ' (upd H1 p (.tup xs)) } E := by
  cases r with
  | bad => exact h
  | exc c ns xs S' => exact h
  | ok f S' =>
    cases f with
    | nx env => exact fun ω' μ' σ' H' rl e p xs hp => h ω' μ' σ' _ (rl.fresh hp) (e.trans (Ext.fresh hp).s)
    | bk env => exact h
    | ct env => exact h
    | rt x => exact h
/-- the stores behind it -/
abbrev tParT (K : PySem.W.Frag) (i j : Nat) (ta : TA) : TS := tAsg (tTup ta) (gTup K 2 (gCons (gName i) (gCons (gName j) gNil)))
theorem tD_mono {K : PySem.W.Frag} {m : EM} {σ : St} {H : Hp} {Q Q' : VK} (h : tD K cl E m σ H Q) (k : ∀ v H, Q v H → Q' v H) : tD K cl E m σ H Q' := by
  obtain ⟨W, ω, μ, S, env, rl, q⟩ := h
  exact ⟨W, ω, μ, S, env, rl, q.mono fun x S' μ' H' _ _ _ q v rv => k _ _ (q v rv)⟩
theorem tN_mono {K : PySem.W.Frag} {m : EM} {σ : St} {H : Hp} {Q Q' : VK} (h : tN K cl E m σ H Q) (k : ∀ v H, Q v H → Q' v H) : tN K cl E m σ H Q' := by
  obtain ⟨W, ω, μ, S, env, rl, q⟩ := h
  exact ⟨W, ω, μ, S, env, rl, q.mono fun x S' μ' H' _ _ _ q a ha sb at_ => k _ _ (q a ha sb at_)⟩
def Mono (t : TE) : Prop := ∀ (σ : St) (H : Hp) (Q Q' : VK), t σ H Q → (∀ v H, Q v H → Q' v H) → t σ H Q'
theorem mono_N {K : PySem.W.Frag} {m : EM} : Mono (tN K cl E m) := fun _ _ _ _ h k => tN_mono h k
theorem mono_D {K : PySem.W.Frag} {m : EM} : Mono (tD K cl E m) := fun _ _ _ _ h k => tD_mono h k
theorem par_tup {K : PySem.W.Frag} {t1 t2 : TE} (h1 : Mono t1) (h2 : Mono t2) {D : Ends} {σ : St} {H : Hp}
    (h : tPar i j (tCons t1 (tCons t2 tNil)) { D with nx := fun σ' H1 => ∀ p xs, H1 p = none → D.nx σ' (upd H1 p (.tup xs)) } σ H) : tParT K i j (tCons t1 (tCons t2 tNil)) D σ H :=
  h1 _ _ _ _ h fun v H1 q => h2 _ _ _ _ q fun w H2 ⟨v', w', e, q⟩ => by
    cases e
    exact ⟨by show 2 ≤ sizeLine; rw [sizeLine_eq]; omega, fun p hp => ⟨p, [v, w], rfl, .of upd_same, rfl, v, [w], rfl, w, [], rfl, rfl, q p _ hp⟩⟩
theorem tS_fr {K : PySem.W.Frag} {b : SM} {D : Ends} {σ : St} {H : Hp} (h : tS K cl E b D σ H) : tS K cl E b { D with nx := fun σ' H1 => ∀ p xs, H1 p = none → D.nx σ' (upd H1 p (.tup xs)) } σ H := by
  obtain ⟨W, ω, μ, S, env, rl, q⟩ := h
  exact ⟨W, ω, μ, S, env, rl, q.fr⟩
/-- from a statement's reading by ds_par.. to that of the tuple's -/
theorem PS.ofImp {b : SM} {t : TS} (h : PS X st t) (k : ∀ D σ H, tS X.K cl E b D σ H → t D σ H) : PS X st (tS X.K cl E b) := h.imp k
theorem t_parOO {K : PySem.W.Frag} {D : Ends} {σ : St} {H : Hp} (h : tS K cl E (parOO i j m1 m2) D σ H) : tPar i j (tCons (tN K cl E m1) (tCons (tN K cl E m2) tNil)) D σ H := by
  obtain ⟨W, ω, μ, S, env, rl, q⟩ := h
  refine ⟨W, ω, μ, S, env, rl, q.back.mono fun x S1 μ1 H1 _ s1 e1 q1 a ha sa ata => ⟨Wa W a, ω, μ1, S1, env, rl.banNew e1 ha sa, ?_⟩⟩
  revert q1
  generalize m2 env S1 = r
  intro q1
  cases r with
  | bad => exact q1.elim
  | exc c ns ys S2 =>
    intro μ2 H2 d s2 e2 x
    obtain ⟨fs, x1, x2, x3⟩ := x
    have sub : ∀ b, W b → Wo (Wa W a) ω b := fun b z => .inl (.inl z)
    exact q1 μ2 H2 d (s2.weak sub) ((e1.s.trans e2.s).drop fun _ z => nomatch z) ⟨fs, x1, x2, x3.mono (Kp.weak sub)⟩
  | ok y S2 =>
    intro μ2 H2 s2 e2 b hb sb atb
    dsimp only [Res.bind] at q1
    by_cases hl : i < env.length ∧ j < env.length
    · rw [if_pos hl] at q1
      have r1 := rl.setOwn e1 ha sa ata i (by rw [rl.l2, ← rl.l1]; exact hl.1)
      have sub : ∀ z, Wa (Wo W (ω.set i (some a))) b z → Wa (Wo (Wa W a) ω) b z := fun z k => k.elim (fun k => .inl (k.elim (fun k => .inl (.inl k)) fun k => (List.mem_or_eq_of_mem_set k).elim .inr fun k => .inl (.inr (Option.some.inj k)))) .inr
      have r2 := r1.setOwn e2 hb (sb.weak sub) (atb.mono (Kp.weak sub) fun _ q => q) j (by rw [List.length_set, rl.l2, ← rl.l1]; exact hl.2)
      exact ⟨.ref a, .ref b, rfl, q1 _ μ2 _ H2 r2 ((ExtS.ownNew e1 ha).trans (ExtS.ownNew e2 hb))⟩
    · rw [if_neg hl] at q1
      exact q1.elim
theorem t_parOV {K : PySem.W.Frag} {D : Ends} {σ : St} {H : Hp} (h : tS K cl E (parOV2 i j m1 m2) D σ H) : tPar i j (tCons (tN K cl E m1) (tCons (tD K cl E m2) tNil)) D σ H := by
  obtain ⟨W, ω, μ, S, env, rl, q⟩ := h
  refine ⟨W, ω, μ, S, env, rl, q.back.mono fun x S1 μ1 H1 _ s1 e1 q1 a ha sa ata => ⟨Wa W a, ω, μ1, S1, env, rl.banNew e1 ha sa, ?_⟩⟩
  revert q1
  generalize m2 env S1 = r
  intro q1
  cases r with
  | bad => exact q1.elim
  | exc c ns ys S2 =>
    intro μ2 H2 d s2 e2 x
    obtain ⟨fs, x1, x2, x3⟩ := x
    have sub : ∀ b, W b → Wo (Wa W a) ω b := fun b z => .inl (.inl z)
    exact q1 μ2 H2 d (s2.weak sub) ((e1.s.trans e2.s).drop fun _ z => nomatch z) ⟨fs, x1, x2, x3.mono (Kp.weak sub)⟩
  | ok y S2 =>
    intro μ2 H2 s2 e2 v rv
    dsimp only [Res.bind] at q1
    by_cases hl : i < env.length
    · rw [if_pos hl] at q1
      have r1 := rl.setOwn e1 ha sa ata i (by rw [rl.l2, ← rl.l1]; exact hl)
      have sub : ∀ z, Wo W (ω.set i (some a)) z → Wo (Wa W a) ω z := fun z k => k.elim (fun k => .inl (.inl k)) fun k => (List.mem_or_eq_of_mem_set k).elim .inr fun k => .inl (.inr (Option.some.inj k))
      have r2 := (r1.ext e2 (s2.weak sub)).set (rv.mono (Kp.weak sub)) j
      exact ⟨.ref a, v, rfl, q1 _ μ2 _ H2 r2 ((ExtS.ownNew e1 ha).trans (e2.s.drop fun _ z => mem_set_none z))⟩
    · rw [if_neg hl] at q1
      exact q1.elim
theorem t_parVO {K : PySem.W.Frag} {D : Ends} {σ : St} {H : Hp} (h : tS K cl E (parVO i j m1 m2) D σ H) : tPar i j (tCons (tD K cl E m1) (tCons (tN K cl E m2) tNil)) D σ H := by
  obtain ⟨W, ω, μ, S, env, rl, q⟩ := h
  refine ⟨W, ω, μ, S, env, rl, q.ofG.mono fun x S1 μ1 H1 _ s1 e1 q1 v rv => ⟨W, ω, μ1, S1, env, rl.ext e1 s1, q1.back.mono fun y S2 μ2 H2 _ s2 e2 q2 a ha sb at_ => ?_⟩⟩
  have r1 := (rl.ext e1 s1).set rv i
  have hw : ∀ b, Wa (Wo W (ω.set i none)) a b → Wa (Wo W ω) a b := fun b z => z.elim (fun z => .inl (z.elim .inl fun z => .inr (mem_set_none z))) .inr
  have d0 : ExtS ω μ1 H1 (ω.set i none) μ1 H1 := ExtS.refl.drop fun _ z => mem_set_none z
  by_cases hl : j < env.length
  · have r2 := r1.setOwn e2 ha (sb.weak hw) (at_.mono (Kp.weak hw) fun _ q => q) j (by rw [List.length_set, rl.l2, ← rl.l1]; exact hl)
    exact ⟨v, .ref a, rfl, q2 _ μ2 _ H2 r2 (d0.trans (ExtS.ownNew e2 ha))⟩
  · have z1 : (env.set i (.v x)).set j (.ow y) = env.set i (.v x) := List.set_eq_of_length_le (by rw [List.length_set]; omega)
    have z2 : (σ.set i (some v)).set j (some (.ref a)) = σ.set i (some v) := List.set_eq_of_length_le (by rw [List.length_set, ← rl.l1]; omega)
    refine ⟨v, .ref a, rfl, ?_⟩
    rw [z2]
    have q3 : SatF K cl W ω μ1 H1 (.ok (.nx ((env.set i (.v x)).set j (.ow y))) S2) D E := q2
    rw [z1] at q3
    have s2' : Sim K cl (Wo W (ω.set i none)) μ2 S2 H2 := s2.weak fun b z => z.elim .inl fun z => .inr (mem_set_none z)
    exact q3 _ μ2 _ H2 (r1.ext e2 s2') (d0.trans e2.s)
theorem ds_parOOt (h : PS X st (tParT X.K i j (tCons (tN X.K cl E m1) (tCons (tN X.K cl E m2) tNil)))) : PS X st (tS X.K cl E (parOO i j m1 m2)) := h.imp fun D σ H z => par_tup mono_N mono_N (t_parOO (tS_fr z))
theorem ds_parOVt (h : PS X st (tParT X.K i j (tCons (tN X.K cl E m1) (tCons (tD X.K cl E m2) tNil)))) : PS X st (tS X.K cl E (parOV2 i j m1 m2)) := h.imp fun D σ H z => par_tup mono_N mono_D (t_parOV (tS_fr z))
theorem ds_parVOt (h : PS X st (tParT X.K i j (tCons (tD X.K cl E m1) (tCons (tN X.K cl E m2) tNil)))) : PS X st (tS X.K cl E (parVO i j m1 m2)) := h.imp fun D σ H z => par_tup mono_D mono_N (t_parVO (tS_fr z))
end
/-! ### {} -/
def dNew : EM := fun _ S => .ok (.dk [] []) S
theorem dn_dict {X : Cx} {cl : Cl} {E : XK} {pos : Pos} : PE X (.Dict [] [] pos) (tN X.K cl E dNew) := pe_dnewK.imp fun σ H Q ⟨W, ω, μ, S, env, rl, q⟩ p hp =>
  q μ _ (rl.sim.fresh hp) (Ext.fresh hp) p hp (rl.sim.freshBan hp fun z => rl.sim.tracked (.inl z) hp) (.dk upd_same rfl .nil)
/-! ### list * int -/
def mulLF : F2 := fun S x y => match look S x, y with
  | .lst xs, .int k => if -(2 ^ 63) ≤ k ∧ k < 2 ^ 63 ∧ xs.length * k.toNat ≤ 16777216 then some (.lst (List.replicate k.toNat xs).flatten) else none
  | _, _ => none
theorem s_mulL {X : Cx} {cl : Cl} : Op2N X cl rRep mulLF := by
  intro W ω μ S H x y z v u Q s rx ry h k
  have r1 := repR_of s rx
  unfold mulLF at h
  revert h r1
  generalize look S x = x'
  intro h r1
  cases x' with
  | lst xs =>
    cases y with
    | int n =>
      dsimp only at h
      split at h
      · rename_i hc
        obtain ⟨c1, c2, c3⟩ := hc
        cases h
        obtain ⟨a, vs, e1, e2, e3⟩ := repR_lst r1
        subst e1
        have : u = .int n := by
          rcases ry with ry | ⟨b, _, _, ry⟩
          · cases ry; rfl
          · cases ry
        subst this
        exact ⟨a, n, vs, rfl, rfl, e2, c1, c2, by rw [sizeLine_eq, ← e3.length]; exact c3, fun p hp => k p _ hp (.lst (reps_rep e3 _))⟩
      · cases h
    | _ => cases h
  | _ => cases h
/-! ### a new list handed out, to be changed by others -/
section
variable {X : Cx} {cl : Cl} {E : XK} {st : Stmt} {e : Expr} {m : EM} {i : Nat} {pos : Pos}
theorem Sim.pushNew {K : PySem.W.Frag} {V0 : Addr → Prop} {μ' : List Addr} {S' : Sto} {H' : Hp} {a : Addr} {x : Vl} (na : ¬ V0 a) (s : Sim K cl (Wa V0 a) μ' S' H') (h : At K cl (Bn (Wa V0 a) μ') μ' H' a x) : Sim K cl V0 (μ' ++ [a]) (S' ++ [x]) H' := by
  have nm : a ∉ μ' := fun z => s.dis a z (.inr rfl)
  have kp : Kp (Bn (Wa V0 a) μ') (Bn V0 (μ' ++ [a])) μ' (μ' ++ [a]) H' H' := ⟨fun b o q n => ⟨q, fun z => by
      rcases z with z | z
      · rcases List.mem_append.mp z with z | z
        · exact n (.inl z)
        · exact n (.inr (.inr (by simpa using z)))
      · exact n (.inr (.inl z))⟩, fun n b q => by rw [List.getElem?_append_left (List.getElem?_eq_some_iff.mp q).1]; exact q⟩
  refine ⟨by simp [s.len], ?_, fun b z w => ?_, fun b w => s.trn b (.inl w), fun n y q => ?_⟩
  · rw [List.nodup_append]
    exact ⟨s.nd, by simp, fun b hb c hc => by
      have : c = a := by simpa using hc
      subst this
      exact fun z => nm (z ▸ hb)⟩
  · rcases List.mem_append.mp z with z | z
    · exact s.dis b z (.inl w)
    · have : b = a := by simpa using z
      subst this
      exact na w
  · by_cases hn : n < S'.length
    · rw [List.getElem?_append_left hn] at q
      obtain ⟨b, e1, e2⟩ := s.obs n y q
      exact ⟨b, kp.num n b e1, e2.mono kp fun _ q => q⟩
    · have hn2 : n = S'.length := by
        have := (List.getElem?_eq_some_iff.mp q).1
        rw [List.length_append, List.length_singleton] at this
        omega
      subst hn2
      rw [List.getElem?_append_right (Nat.le_refl _), Nat.sub_self] at q
      cases q
      refine ⟨a, ?_, h.mono kp fun _ q => q⟩
      rw [← s.len, List.getElem?_append_right (Nat.le_refl _), Nat.sub_self] <;> rfl
def retW (m : EM) : SM := fun env S => (m env S).bind fun x S1 => .ok (.rt (.ref S1.length)) (S1 ++ [x])
theorem ds_retW (h : PE X e (tN X.K cl E m)) : PS X (.Return (some e) pos) (tS X.K cl E (retW m)) := (ps_ret h).imp fun D σ H ⟨W, ω, μ, S, env, rl, q⟩ => by
  refine ⟨W, ω, μ, S, env, rl, q.back.mono fun x S1 μ1 H1 _ s1 e1 q1 a ha sb at_ => ?_⟩
  have na : ¬ Wo W ω a := fun z => rl.sim.trk a z ha
  have s2 := sb.pushNew na at_
  refine q1 (μ1 ++ [a]) H1 (.ref a) (s2.weak wo_left) ⟨fun b o q n _ => e1.keep b o q n, e1.dom, fun n b z => ?_, fun b z => ?_⟩ (.ref ?_)
  · rw [List.getElem?_append_left (List.getElem?_eq_some_iff.mp (e1.pre n b z)).1]; exact e1.pre n b z
  · rcases z with z | z
    · rcases List.mem_append.mp z with z | z
      · exact (e1.new b z).elim .inl fun z => .inr (.inr z)
      · have : b = a := by simpa using z
        subst this
        exact .inr (.inr ha)
    · exact nomatch z
  · rw [← sb.len, List.getElem?_append_right (Nat.le_refl _), Nat.sub_self] <;> rfl
/-- x.append(e), x a shared list -/
def appR (i : Nat) (m : EM) : SM := fun env S => match env[i]? with
  | some (.v (.ref n)) => (match S[n]? with
    | some (.lst _) => (m env S).bind fun x S1 => (match S1[n]? with
      | some (.lst xs) => if xs.length < 16777216 then .ok (.nx env) (S1.set n (.lst (xs ++ [x]))) else .bad
      | _ => .bad)
    | _ => .bad)
  | _ => .bad
theorem ds_appR {te : TE} (h : PS X st (tDrop (tBM X.K "list" rAppend (tVar i) (tCons te tNil)))) (hi : ∀ σ H Q, tD X.K cl E m σ H Q → te σ H Q) : PS X st (tS X.K cl E (appR i m)) := h.imp fun D σ H ⟨W, ω, μ, S, env, rl, q⟩ => by
  unfold appR at q
  split at q
  · rename_i n he
    split at q
    · rename_i ys hs
      obtain ⟨o, sv, h1, h2, _, v0, h4, h5⟩ := rl.slot he
      subst h4
      cases h5 with
      | @ref _ a hn =>
        obtain ⟨b, g1, g2⟩ := rl.sim.obs n _ hs
        rw [hn] at g1
        cases g1
        cases g2 with
        | @lst _ vs g2 g3 =>
          refine ⟨.ref a, h2, .inl ⟨rfl, vs, .of g2⟩, hi _ _ _ ⟨W, ω, μ, S, env, rl, q.ofG.mono fun x S1 μ1 H1 _ s1 e1 q1 v rv => ?_⟩⟩
          split at q1
          · rename_i xs hs1
            obtain ⟨b, k1, k2⟩ := s1.obs n _ hs1
            have hn1 := e1.pre n a hn
            rw [hn1] at k1
            cases k1
            cases k2 with
            | @lst _ ws k2 k3 =>
              split at q1
              · rename_i hl
                obtain ⟨s2, e2⟩ := s1.upd hn1 (y := .lst (xs ++ [x])) (o := .lst (ws ++ [v])) (.lst (k3.snoc rv))
                exact ⟨a, ws, v, rfl, rfl, k2, by rw [sizeLine_eq, ← k3.length]; assumption, q1 ω μ1 σ _ ((rl.ext e1 s1).ext e2 s2) e2.s⟩
              · exact q1.elim
          · exact q1.elim
    · exact q.elim
  · exact q.elim
end
end Dm

set_option Elab.async false
set_option linter.all false
set_option maxRecDepth 100000
set_option autoImplicit false
set_option maxHeartbeats 1000000
/-! DmN: try .. except C as e. -/
namespace Dm
open PySem PySem.Spec L2
section
variable {K : PySem.W.Frag} {cl : Cl} {W : Addr → Prop} {ω : List (Option Addr)} {μ μ' : List Addr} {S S' : Sto} {env : List Sv} {σ : St} {H H' : Hp}
/-- a name that holds what is not told -/
theorem Rl.un (r : Rl K cl W ω μ S env σ H) (i : Nat) (z : Option V) : Rl K cl W (ω.set i none) μ S (env.set i .un) (σ.set i z) H := by
  have sub : ∀ a, Wo W (ω.set i none) a → Wo W ω a := fun a z => z.elim .inl fun z => .inr ((List.mem_or_eq_of_mem_set z).elim id fun z => nomatch z)
  refine ⟨r.sim.weak sub, by simp [r.l1], by simp [r.l2], fun j e o s h1 h2 h3 => ?_, fun j k a h1 h2 => ?_, fun a z => r.ow a ((List.mem_or_eq_of_mem_set z).elim id fun z => nomatch z)⟩
  · by_cases hj : j = i
    · subst hj
      rw [List.getElem?_set_self (by have := (List.getElem?_eq_some_iff.mp h1).1; simpa using this)] at h1
      rw [List.getElem?_set_self (by have := (List.getElem?_eq_some_iff.mp h2).1; simpa using this)] at h2
      cases h1; cases h2
      exact rfl
    · rw [List.getElem?_set_ne (Ne.symm hj)] at h1 h2 h3
      exact (r.at_ j e o s h1 h2 h3).mono (Kp.weak sub) fun _ _ _ q => q
  · have f : ∀ l : Nat, (ω.set i none)[l]? = some (some a) → ω[l]? = some (some a) := fun l q => by
      by_cases hl : l = i
      · subst hl
        rw [List.getElem?_set_self (by have := (List.getElem?_eq_some_iff.mp q).1; simpa using this)] at q
        cases q
      · rw [List.getElem?_set_ne (Ne.symm hl)] at q; exact q
    exact r.od j k a (f j h1) (f k h2)
theorem XFs.weak {V0 V1 : Addr → Prop} {d : Addr} {ns : List Str} {xs : List Vl} (h : ∀ a, V1 a → V0 a) (x : XFs K cl (Bn V0 μ) μ H d ns xs) : XFs K cl (Bn V1 μ) μ H d ns xs := by
  obtain ⟨fs, e1, e2, e3⟩ := x
  exact ⟨fs, e1, e2, e3.mono (Kp.weak h)⟩
/-- behind the suite the name is gone -/
def post (i : Nat) : Res Fl → Res Fl
  | .ok (.nx env) S => .ok (.nx (env.set i .un)) S
  | .ok (.bk env) S => .ok (.bk (env.set i .un)) S
  | .ok (.ct env) S => .ok (.ct (env.set i .un)) S
  | r => r
theorem post_sat {r : Res Fl} {D : Ends} {E : XK} {i : Nat} (h : SatF K cl W ω μ H (post i r) D E) :
    SatF K cl W ω μ H r { nx := fun σ' H' => D.nx (σ'.set i none) H', rt := D.rt, bk := fun σ' H' => D.bk (σ'.set i none) H', ct := fun σ' H' => D.ct (σ'.set i none) H' } E := by
  cases r with
  | bad => exact h
  | exc c ns xs S' => exact h
  | ok f S' =>
    cases f with
    | nx env => exact fun ω' μ' σ' H' rl e => h _ μ' _ H' (rl.un i none) (e.drop fun _ z => mem_set_none z)
    | bk env => exact fun ω' μ' σ' H' rl e => h _ μ' _ H' (rl.un i none) (e.drop fun _ z => mem_set_none z)
    | ct env => exact fun ω' μ' σ' H' rl e => h _ μ' _ H' (rl.un i none) (e.drop fun _ z => mem_set_none z)
    | rt x => exact h
end
/-! ### the suites: a word, a field of the error; alone or in a tuple; stored or returned -/
inductive Sx where
  | s (z : Str) | f (n : Str)
def sxV (ns : List Str) (xs : List Vl) : Sx → Option Vl
  | .s z => some (.str z)
  | .f n => fGet ns xs n
def sxsV (ns : List Str) (xs : List Vl) : List Sx → Option (List Vl)
  | [] => some []
  | s :: ss => match sxV ns xs s, sxsV ns xs ss with
    | some y, some ys => some (y :: ys)
    | _, _ => none
def sxT (i : Nat) (C a : Addr) (cls : Value) (d : Option Addr) : Sx → TE
  | .s z => tC (.str z)
  | .f n => tXf a cls d C n (tVar i)
def sxsT (i : Nat) (C a : Addr) (cls : Value) (d : Option Addr) : List Sx → TA
  | [] => tNil
  | s :: ss => tCons (sxT i C a cls d s) (sxsT i C a cls d ss)
section
variable {K : PySem.W.Frag} {cl : Cl} {W : Addr → Prop} {ω : List (Option Addr)} {μ μ' : List Addr} {S S' : Sto} {env : List Sv} {σ : St} {H H' : Hp} {i : Nat} {C a d : Addr} {ns : List Str} {xs : List Vl} {B : Addr → Prop}
theorem sx_t {s : Sx} {x : Vl} {Q : VK} (hσ : σ[i]? = some (some (.ref a))) (hx : XFs K cl B μ H d ns xs) (h : sxV ns xs s = some x) (q : ∀ v, Rep K cl B μ H x v → Q v H) : sxT i C a (.ref C) (some d) s σ H Q := by
  cases s with
  | s z =>
    cases h
    exact q _ (.str z)
  | f n =>
    obtain ⟨fs, e1, e2, e3⟩ := hx
    subst e2
    obtain ⟨v, l, r⟩ := (fGet_ok e3).1 x h
    exact ⟨.ref a, hσ, rfl, rfl, d, fs, v, rfl, e1, l, q v r⟩
theorem sxs_t : ∀ {ss : List Sx} {ys : List Vl} {Q : List V → Hp → Prop}, σ[i]? = some (some (.ref a)) → XFs K cl B μ H d ns xs → sxsV ns xs ss = some ys → (∀ vs, Reps K cl B μ H ys vs → vs.length = ss.length → Q vs H) → sxsT i C a (.ref C) (some d) ss σ H Q
  | [], ys, Q, _, _, h, q => by
    cases h
    exact q [] .nil rfl
  | s :: ss, ys, Q, hσ, hx, h, q => by
    unfold sxsV at h
    cases h1 : sxV ns xs s with
    | none => rw [h1] at h; cases h
    | some y =>
      rw [h1] at h
      cases h2 : sxsV ns xs ss with
      | none => rw [h2] at h; cases h
      | some zs =>
        rw [h2] at h
        cases h
        exact sx_t hσ hx h1 fun v rv => sxs_t hσ hx h2 fun vs rs hl => q (v :: vs) (.cons rv rs) (by rw [List.length_cons, List.length_cons, hl])
end
abbrev HM := List Str → List Vl → SM
def HdOk (K : PySem.W.Frag) (cl : Cl) (cN i : Nat) (ts : Addr → Value → Option Addr → TS) (h : HM) : Prop :=
  ∀ (W : Addr → Prop) (ω : List (Option Addr)) (μ : List Addr) (S : Sto) (env : List Sv) (σ : St) (H : Hp) (a d : Addr) (ns : List Str) (xs : List Vl) (D : Ends) (E : XK), Rl K cl W ω μ S env σ H → σ[i]? = some (some (.ref a)) → XFs K cl (Bn (Wo W ω) μ) μ H d ns xs →
    SatF K cl W ω μ H (h ns xs env S) D E → ts a (.ref (cl cN)) (some d) D σ H
def hAsg (j : Nat) (s : Sx) : HM := fun ns xs env S => match sxV ns xs s with
  | some x => .ok (.nx (env.set j (.v x))) S
  | none => .bad
def hAsgT (j : Nat) (ss : List Sx) : HM := fun ns xs env S => match sxsV ns xs ss with
  | some ys => .ok (.nx (env.set j (.v (.tup ys)))) S
  | none => .bad
def hRet (s : Sx) : HM := fun ns xs env S => match sxV ns xs s with
  | some x => .ok (.rt x) S
  | none => .bad
def hRetT (ss : List Sx) : HM := fun ns xs env S => match sxsV ns xs ss with
  | some ys => .ok (.rt (.tup ys)) S
  | none => .bad
section
variable {K : PySem.W.Frag} {cl : Cl} {cN i j : Nat}
theorem hd_asg {s : Sx} : HdOk K cl cN i (fun a cls d => tAsg (sxT i (cl cN) a cls d s) (gName j)) (hAsg j s) := by
  intro W ω μ S env σ H a d ns xs D E rl hσ hx q
  unfold hAsg at q
  split at q
  · rename_i x h
    exact sx_t hσ hx h fun v rv => q _ μ _ H (rl.set rv j) (ExtS.refl.drop fun _ z => mem_set_none z)
  · exact q.elim
theorem hd_asgT {ss : List Sx} (hl : ss.length ≤ 1000 := by decide) : HdOk K cl cN i (fun a cls d => tAsg (tTup (sxsT i (cl cN) a cls d ss)) (gName j)) (hAsgT j ss) := by
  intro W ω μ S env σ H a d ns xs D E rl hσ hx q
  unfold hAsgT at q
  split at q
  · rename_i ys h
    refine sxs_t hσ hx h fun vs rs hv => ⟨by rw [hv, sizeLine_eq]; omega, fun p hp => ?_⟩
    exact q _ μ _ _ ((rl.fresh hp).set (.tup upd_same (fun z => rl.sim.tracked z hp) (rs.mono (Ext.fresh hp).kp)) j) ((Ext.fresh hp).s.drop fun _ z => mem_set_none z)
  · exact q.elim
theorem hd_ret {s : Sx} : HdOk K cl cN i (fun a cls d => tRet (sxT i (cl cN) a cls d s)) (hRet s) := by
  intro W ω μ S env σ H a d ns xs D E rl hσ hx q
  unfold hRet at q
  split at q
  · rename_i x h
    exact sx_t hσ hx h fun v rv => q μ H v (rl.sim.weak wo_left) (ExtS.refl.drop fun _ z => nomatch z) (rv.mono (Kp.weak wo_left))
  · exact q.elim
theorem hd_retT {ss : List Sx} (hl : ss.length ≤ 1000 := by decide) : HdOk K cl cN i (fun a cls d => tRet (tTup (sxsT i (cl cN) a cls d ss))) (hRetT ss) := by
  intro W ω μ S env σ H a d ns xs D E rl hσ hx q
  unfold hRetT at q
  split at q
  · rename_i ys h
    refine sxs_t hσ hx h fun vs rs hv => ⟨by rw [hv, sizeLine_eq]; omega, fun p hp => ?_⟩
    exact q μ _ _ ((rl.sim.fresh hp).weak wo_left) ((Ext.fresh hp).s.drop fun _ z => nomatch z) (.tup upd_same (fun z => rl.sim.tracked (z.elim .inl fun z => .inr (.inl z)) hp) ((rs.mono (Ext.fresh hp).kp).mono (Kp.weak wo_left)))
  · exact q.elim
end
/-! ### try: x = f(..), except C as e: suite -/
def tblOf (cN : Nat) (os : List Nat) : Nat → Option Bool := fun c => if c = cN then some true else if c ∈ os then some false else none
theorem tbl_ok {K : PySem.W.Frag} {cl : Cl} {cN : Nat} {os : List Nat} (h1 : PySem.W.exmOne K (.ref (cl cN)) (.ref (cl cN)) = some true) (h2 : ∀ c ∈ os, PySem.W.exmOne K (.ref (cl c)) (.ref (cl cN)) = some false) :
    ∀ c b, tblOf cN os c = some b → PySem.W.exmOne K (.ref (cl c)) (.ref (cl cN)) = some b ∧ (b = true → c = cN) := by
  intro c b h
  unfold tblOf at h
  split at h
  · rename_i e
    subst e
    cases h
    exact ⟨h1, fun _ => rfl⟩
  · split at h
    · rename_i e
      cases h
      exact ⟨h2 c e, fun z => nomatch z⟩
    · cases h
abbrev E0 : XK := fun _ _ _ => False
def setO (j : Option Nat) (x : Vl) (env : List Sv) : List Sv := match j with
  | some j => env.set j (.v x)
  | none => env
def tryS (tbl : Nat → Option Bool) (i j : Nat) (f : List Vl → Sto → Res Vl) (mA : AM) (h : HM) : SM := fun env S => match mA env S with
  | .ok xs S1 => (match f xs S1 with
    | .ok x S2 => .ok (.nx (env.set j (.v x))) S2
    | .exc c ns ys S2 => (match tbl c with
      | some true => if i < env.length then post i (h ns ys (env.set i .un) S2) else .bad
      | some false => .exc c ns ys S2
      | none => .bad)
    | .bad => .bad)
  | _ => .bad
section
variable {X : Cx} {cl : Cl} {E : XK} {cN i j k n : Nat} {f : List Vl → Sto → Res Vl} {mA : AM} {h : HM} {ts : Addr → Value → Option Addr → TS} {tbl : Nat → Option Bool} {x nm : Str} {body suite : List Stmt} {b₀ : Stmt} {np pos pos' : Pos}
theorem ds_tryA (hs : X.stack = X.env :: X.outer) (hf : X.env.frame = some X.env.locals) (hN : X.N.Nodup) (hi : X.N[i]? = some nm) (hln : X.env.kindOf nm = some .local) (hc : Names X x (.ref (cl cN))) (tk : Takes X fun cls d _ H => E cls d H)
    (ht : ∀ c b, tbl c = some b → PySem.W.exmOne X.K (.ref (cl c)) (.ref (cl cN)) = some b ∧ (b = true → c = cN)) (hn : LenA mA n)
    (hb : ∀ (W : WX) (pn : List (Addr × Obj)) (xe : Value → Shared → Prop), Takes (X.tr pn xe) W → PassesOwn (model X.prog X.w) X.A X.env xe → PSs (X.tr pn xe) body (tAsg (tCallS (spM X.K cl n f) (WE W) (tDA X.K cl E0 mA)) (gName j)))
    (hsu : ∀ (a : Addr) (oe : Obj) (cls : Value) (d : Option Addr) (pn : List (Addr × Obj)), Zc cls d oe → (∃ vs, oe.data = .fields vs) → PSs (X.suite a ((a, oe) :: pn)) (b₀ :: suite) (ts a cls d)) (hh : HdOk X.K cl cN i ts h) :
    PS X (.Try body [.ExceptHandler (some (.Name x np)) (some nm) (b₀ :: suite) pos'] [] [] pos) (tS X.K cl E (tryS tbl i j f mA h)) :=
  (ps_try_as hs hf hN hi hln hc tk hb hsu).imp fun D σ H ⟨W, ω, μ, S, env, rl, q⟩ => by
    unfold tryS at q
    refine ⟨W, ω, μ, S, env, rl, ?_⟩
    cases hm : mA env S with
    | bad => rw [hm] at q; exact q.elim
    | exc c ns xs S1 => rw [hm] at q; exact q.elim
    | ok xs S1 =>
      rw [hm] at q
      intro μ1 H1 s1 e1 vs rs
      refine ⟨Wo W ω, μ1, S1, xs, s1, rs, hn _ _ _ _ hm, ?_⟩
      dsimp only at q
      cases hf : f xs S1 with
      | bad => rw [hf] at q; exact q.elim
      | ok y S2 =>
        rw [hf] at q
        intro μ2 H2 s2 e2 v rv
        exact q _ μ2 _ H2 (((rl.ext e1 s1).ext e2 s2).set rv j) ((e1.trans e2).s.drop fun _ z => mem_set_none z)
      | exc c ns ys S2 =>
        rw [hf] at q
        intro μ2 H2 d s2 e2 xf
        dsimp only at q
        cases hb : tbl c with
        | none => rw [hb] at q; exact q.elim
        | some b =>
          rw [hb] at q
          obtain ⟨t1, t2⟩ := ht c b hb
          cases b with
          | false => exact ⟨false, t1, (fun z => nomatch z), fun _ => q μ2 H2 d (s2.weak wo_left) ((e1.trans e2).s.drop fun _ z => nomatch z) (xf.weak wo_left)⟩
          | true =>
            have hcN := t2 rfl
            subst hcN
            refine ⟨true, t1, fun _ a ha => ?_, fun z => nomatch z⟩
            dsimp only at q
            split at q
            · rename_i hl
              have rl3 := ((rl.ext e1 s1).ext e2 s2).un i (some (.ref a))
              have sub : ∀ b, Wo W (ω.set i none) b → Wo W ω b := fun b z => z.elim .inl fun z => .inr (mem_set_none z)
              exact hh W _ μ2 S2 _ _ H2 a d ns ys _ E rl3 (List.getElem?_set_self (by rw [← rl.l1]; exact hl)) (xf.weak sub) (post_sat (SatF.step q ((e1.trans e2).s.drop fun _ z => mem_set_none z)))
            · exact q.elim
end
end Dm

set_option Elab.async false
set_option linter.all false
set_option maxRecDepth 100000
set_option autoImplicit false
set_option maxHeartbeats 1000000
/-! DmP: the head's hook with one root more (what reading a class asks). -/
namespace Dm
open PySem PySem.Spec L2
def obsXC (n : Nat) (fx : List Fx) (fa : List He.Fa) (fn : List He.DefD) (g : Addr → Option Obj) : AlX := obsX fx fa fn (He.frG g (cStatics :: He.asD g n))
def hookC (n : Nat) (fx : List Fx) (fa : List He.Fa) (fn : List He.DefD) : PySem.W.Hook where
  α := AlX
  obs := fun s => obsXC n fx fa fn s.heap.get?
  val := fun _ => (true, He.valD fn)
  says := fun _ h => ∃ K : PySem.W.Frag, K.In h ∧ SaysX fx fa fn K
  of := fun _ _ e => ⟨_, He.frG_in, ⟨congrArg (fun z : AlX => z.1) e, congrArg (fun z : AlX => z.2) e⟩⟩
  keeps := fun _ _ _ ⟨K, hK, c⟩ k => ⟨K, PySem.W.Frag.In.keeps hK k, c⟩
theorem obsXC_eq {n : Nat} {fx : List Fx} {fa : List He.Fa} {fn : List He.DefD} {g : Addr → Option Obj} {s : Shared} (h : ∀ a, g a = s.heap.get? a) : obsXC n fx fa fn g = (hookC n fx fa fn).obs s := by
  have e : g = s.heap.get? := funext h
  rw [e] <;> rfl
end Dm

set_option Elab.async false
set_option linter.all false
set_option maxRecDepth 100000
set_option autoImplicit false
set_option maxHeartbeats 1000000
/-! DmQ: try around the making of an instance; str * int. -/
namespace L2
open PySem PySem.Spec PyProof.Rows
section
variable {X : Cx} {CX : CXT} {k : Nat} {f C : Addr} {fd : FuncData} {ps : List Str} {sp : Sp} {E : St → XK} {x : Str} {p pos : Pos} {e : Expr} {es : List Expr} {t : TA}
theorem run_makeS {pins : List (Addr × Obj)} {σ : St} {H : Hp} {s : Shared} {Q : VK} {us : List Value} {vs : List V} (M : Mk X.K C f) (F : FnOk X.prog X.w X.K X.mg X.base CX k f fd ps sp) (hr : Room (k + 1) X.A) (hb : Binds X.K fd ps [])
    (hx : PassesAt CX X σ (E σ)) (I : Inv X pins σ H s) (r : Vals vs us)
    (h : ∀ x dx, H x = none → H dx = none → dx ≠ x → sp (.ref x :: vs) (upd (upd H dx (.own x)) x (.ins C dx [])) (fun v H2 => v = .non ∧ Q (.ref x) H2) (E σ)) :
    wpAny (model X.prog X.w) X.A (call (.ref C) us) (EP X pins σ Q) X.xe s := by
  have hq := h (s.heap.objs.size + 1) s.heap.objs.size (I.hok.fresh (Nat.le_succ _)) (I.hok.fresh (Nat.le_refl _)) (Nat.ne_of_lt (Nat.lt_succ_self _))
  have I2 := Inv.made (C := C) I
  have r2 : Vals (V.ref (s.heap.objs.size + 1) :: vs) (Value.ref (s.heap.objs.size + 1) :: us) := .cons rfl r
  have hl : (Value.ref (s.heap.objs.size + 1) :: us).length = ps.length := by
    have e := r2.length
    rw [F.len _ _ _ _ hq] at e
    exact e.symm
  have b := hb _ (Value.ref (s.heap.objs.size + 1) :: us) I2.kIn (by rw [List.append_nil]; exact hl)
  rw [List.append_nil] at b
  refine wpAny_call (make_map (f := f) I.kIn M.makes M.init (beq_iff_eq.mp M.fn) (codeAny_mono (F.run _ X.stack _ _ ⟨Value.ref (s.heap.objs.size + 1) :: us, []⟩ (Value.ref (s.heap.objs.size + 1) :: us) _ _ (E σ) (hr.make C us [])
    (I2.env0.make C us []) b r2 hq) fun r s' hq' => ?_))
  cases r with
  | error e => exact hx pins _ _ e s' I2 hq'
  | ok fl =>
    cases fl with
    | ret u =>
      obtain ⟨v, H', I3, rv, ev, q3⟩ := I2.after hq'
      subst ev
      exact ⟨rv, ⟨V.ref (s.heap.objs.size + 1), H', I3, rfl, q3⟩⟩
    | next => exact False.elim hq'
    | brk => exact False.elim hq'
    | cont => exact False.elim hq'
def tMakeS (C : Addr) (sp : Sp) (E : St → XK) (t : TA) : TE := fun σ H Q => t σ H fun vs H1 => ∀ x dx, H1 x = none → H1 dx = none → dx ≠ x →
  sp (.ref x :: vs) (upd (upd H1 dx (.own x)) x (.ins C dx [])) (fun v H2 => v = .non ∧ Q (.ref x) H2) (E σ)
theorem pe_makeS (M : Mk X.K C f) (F : FnOk X.prog X.w X.K X.mg X.base CX k f fd ps sp) (hr : Room (k + 1) X.A) (hg : Gl X x) (hm : X.mg x = some (.ref C)) (hb : Binds X.K fd ps []) (hx : ∀ σ, PassesAt CX X σ (E σ))
    (ha : PA X (e :: es) t) (hdb : (x == ("__debug__" : Str)) = false := by decide) (he : starEach (e :: es) X.env = (false, eval e X.env) :: starEach es X.env := by rfl) (hpl : (backTo pos (starEach es X.env)).any (·.1) = false := by rfl) :
    PE X (.Call (.Name x p) (e :: es) [] pos) (tMakeS C sp E t) := by
  refine ⟨fun pins s σ H Q I h => ?_⟩
  refine wpAny_Call_Name_kw (ld_glob I hg hm ?_ hdb)
  refine PySem.W.callWith_K (h₀ := X.base) I.ok.mod.kin M.kp (thn (ha.run pos pins s σ H _ I h) fun us s1 ⟨vs, H1, I1, r, q⟩ => ⟨I1.kIn, ?_⟩) he hpl
  exact run_makeS M F hr hb (hx σ) I1 r q
end
end L2
namespace Dm
open PySem PySem.Spec L2
def tryM (tbl : Nat → Option Bool) (i : Nat) (f : Addr → List Vl → Sto → Res Vl) (mA : AM) (h : HM) : SM := fun env S => match mA env S with
  | .ok xs S1 => (match f 0 xs S1 with
    | .ok x S2 => .ok (.nx env) S2
    | .exc c ns ys S2 => (match tbl c with
      | some true => if i < env.length then post i (h ns ys (env.set i .un) S2) else .bad
      | some false => .exc c ns ys S2
      | none => .bad)
    | .bad => .bad)
  | _ => .bad
section
variable {X : Cx} {cl : Cl} {E : XK} {cN cM i k n : Nat} {f : Addr → List Vl → Sto → Res Vl} {mA : AM} {h : HM} {ts : Addr → Value → Option Addr → TS} {tbl : Nat → Option Bool} {x nm : Str} {body suite : List Stmt} {b₀ : Stmt} {np pos pos' : Pos}
theorem ds_tryM (hs : X.stack = X.env :: X.outer) (hf : X.env.frame = some X.env.locals) (hN : X.N.Nodup) (hi : X.N[i]? = some nm) (hln : X.env.kindOf nm = some .local) (hc : Names X x (.ref (cl cN))) (tk : Takes X fun cls d _ H => E cls d H)
    (ht : ∀ c b, tbl c = some b → PySem.W.exmOne X.K (.ref (cl c)) (.ref (cl cN)) = some b ∧ (b = true → c = cN)) (hn : LenA mA n) (hbl : Blind f)
    (hb : ∀ (W : WX) (pn : List (Addr × Obj)) (xe : Value → Shared → Prop), Takes (X.tr pn xe) W → PassesOwn (model X.prog X.w) X.A X.env xe → PSs (X.tr pn xe) body (tDrop (tMakeS (cl cM) (spI X.K cl cM n f) (WE W) (tDA X.K cl E0 mA))))
    (hsu : ∀ (a : Addr) (oe : Obj) (cls : Value) (d : Option Addr) (pn : List (Addr × Obj)), Zc cls d oe → (∃ vs, oe.data = .fields vs) → PSs (X.suite a ((a, oe) :: pn)) (b₀ :: suite) (ts a cls d)) (hh : HdOk X.K cl cN i ts h) :
    PS X (.Try body [.ExceptHandler (some (.Name x np)) (some nm) (b₀ :: suite) pos'] [] [] pos) (tS X.K cl E (tryM tbl i f mA h)) :=
  (ps_try_as hs hf hN hi hln hc tk hb hsu).imp fun D σ H ⟨W, ω, μ, S, env, rl, q⟩ => by
    unfold tryM at q
    refine ⟨W, ω, μ, S, env, rl, ?_⟩
    cases hm : mA env S with
    | bad => rw [hm] at q; exact q.elim
    | exc c ns xs S1 => rw [hm] at q; exact q.elim
    | ok xs S1 =>
      rw [hm] at q
      intro μ1 H1 s1 e1 vs rs x dx hx hdx hne
      dsimp only at q
      refine make_core (Q := fun _ H1 => D.nx σ H1) hbl s1 rs (hn _ _ _ _ hm) ?_ x dx hx hdx hne
      cases hf : f 0 xs S1 with
      | bad => rw [hf] at q; exact q.elim
      | ok y S2 =>
        rw [hf] at q
        intro μ2 H2 s2 e2 a _ _ _
        exact q ω μ2 σ H2 ((rl.ext e1 s1).ext e2 s2) (e1.trans e2).s
      | exc c ns ys S2 =>
        rw [hf] at q
        intro μ2 H2 d s2 e2 xf
        dsimp only at q
        cases hb : tbl c with
        | none => rw [hb] at q; exact q.elim
        | some b =>
          rw [hb] at q
          obtain ⟨t1, t2⟩ := ht c b hb
          cases b with
          | false => exact ⟨false, t1, (fun z => nomatch z), fun _ => q μ2 H2 d (s2.weak wo_left) ((e1.trans e2).s.drop fun _ z => nomatch z) (xf.weak wo_left)⟩
          | true =>
            have hcN := t2 rfl
            subst hcN
            refine ⟨true, t1, fun _ a ha => ?_, fun z => nomatch z⟩
            dsimp only at q
            split at q
            · rename_i hl
              have rl3 := ((rl.ext e1 s1).ext e2 s2).un i (some (.ref a))
              have sub : ∀ b, Wo W (ω.set i none) b → Wo W ω b := fun b z => z.elim .inl fun z => .inr (mem_set_none z)
              exact hh W _ μ2 S2 _ _ H2 a d ns ys _ E rl3 (List.getElem?_set_self (by rw [← rl.l1]; exact hl)) (xf.weak sub) (post_sat (SatF.step q ((e1.trans e2).s.drop fun _ z => mem_set_none z)))
            · exact q.elim
end
/-! ### str * int -/
def repS (z : Str) (k : Int) : Str := ⟨(List.replicate k.toNat z.cps).foldl (· ++ ·) #[]⟩
def rMulS : R2 := fun x y H Q => ∃ z k, x = .str z ∧ y = .int k ∧ 2 ≤ k ∧ k ≤ 1000 ∧ 1 ≤ z.cps.size ∧ z.cps.size ≤ 1000 ∧ Q (.str (repS z k)) H
def mulSF : F2 := fun _ x y => match x, y with
  | .str z, .int k => if 2 ≤ k ∧ k ≤ 1000 ∧ 1 ≤ z.cps.size ∧ z.cps.size ≤ 1000 then some (.str (repS z k)) else none
  | _, _ => none
theorem s_mulS {X : Cx} {cl : Cl} : Op2 X cl rMulS mulSF := by
  intro W ω μ S H x y z v u Q s rx ry h k
  unfold mulSF at h
  split at h
  · rename_i a b
    split at h
    · rename_i hc
      cases h
      have hv : v = .str a := by
        rcases rx with rx | ⟨_, _, _, rx⟩
        · cases rx; rfl
        · cases rx
      have hu : u = .int b := by
        rcases ry with rx | ⟨_, _, _, rx⟩
        · cases rx; rfl
        · cases rx
      exact ⟨a, b, hv, hu, hc.1, hc.2.1, hc.2.2.1, hc.2.2.2, k H _ s Ext.refl (.str _)⟩
    · cases h
  · cases h
theorem repS_size (c : Array Nat) : ∀ (n : Nat) (a : Array Nat), ((List.replicate n c).foldl (· ++ ·) a).size = a.size + n * c.size
  | 0, a => by simp
  | n + 1, a => by
    rw [List.replicate_succ, List.foldl_cons, repS_size c n]
    rw [Array.size_append, Nat.succ_mul]
    omega
theorem op_mulS {X : Cx} : OpR X (binaryOp .Mult) rMulS := by
  intro pins s σ H x y v u Q I rx ry h
  obtain ⟨z, k, rfl, rfl, k1, k2, z1, z2, q⟩ := h
  obtain ⟨t, rfl⟩ := rx
  obtain ⟨t', rfl⟩ := ry
  have hlen : z.length = z.cps.size := rfl
  have e1 : (k == 1 || z.length == 0) = false := by
    rw [Bool.or_eq_false_iff]
    exact ⟨beq_eq_false_iff_ne.mpr (by omega), beq_eq_false_iff_ne.mpr (by rw [hlen]; omega)⟩
  have hmul : z.cps.size * k.toNat ≤ 1000 * 1000 := Nat.mul_le_mul z2 (by omega)
  refine PySem.P.mul_str (by rw [decide_eq_false (by omega), decide_eq_false (by omega)]; rfl) (fun _ _ hh => ?_) (fun _ _ => ?_) ?_
  · have h1 : ((z.cps.size : Nat) : Int) * k ≤ 2 ^ 63 - 1 := by
      have : ((z.cps.size * k.toNat : Nat) : Int) ≤ 1000 * 1000 := by exact_mod_cast hmul
      rw [Int.natCast_mul, Int.toNat_of_nonneg (by omega)] at this
      omega
    have h2 := (Int.le_ediv_iff_mul_le (show (0 : Int) < k by omega)).mpr h1
    rw [hlen] at hh
    omega
  · unfold Builtin.Str.tooLong
    refine decide_eq_false ?_
    rw [hlen, sizeLine_eq]
    omega
  · rw [if_neg (by omega), if_neg (by rw [e1]; decide)]
    refine ⟨?_, ⟨.str (repS z k), H, I.tok _, ⟨_, rfl⟩, q⟩⟩
    show ((List.replicate k.toNat z.cps).foldl (· ++ ·) #[]).size ≤ sizeLine
    rw [repS_size, sizeLine_eq, Nat.mul_comm]
    have : (#[] : Array Nat).size = 0 := rfl
    omega
end Dm

set_option Elab.async false
set_option linter.all false
set_option maxRecDepth 100000
set_option autoImplicit false
set_option maxHeartbeats 1000000
/-! DmR: xs.index(s), texts. -/
namespace Dm
open PySem PySem.Spec L2
def strsOf : List Vl → Option (List Str)
  | [] => some []
  | .str s :: xs => (strsOf xs).map (s :: ·)
  | _ => none
def idxF : F2 := fun S x y => match look S x, y with
  | .lst xs, .str s => (strsOf xs).bind fun ss => (ss.findIdx? fun q => decide (q = s)).map fun j => .int (j : Nat)
  | _, _ => none
def idxM (a b : EM) : EM := fun env S => (a env S).bind fun x S1 => match look S1 x with
  | .lst _ => (b env S1).bind fun y S2 => match idxF S2 x y with
    | some v => .ok v S2
    | none => .bad
  | _ => .bad
theorem strs_reps {K : PySem.W.Frag} {cl : Cl} {B : Addr → Prop} {μ : List Addr} {H : Hp} : ∀ {xs : List Vl} {vs : List V} {ss : List Str}, Reps K cl B μ H xs vs → strsOf xs = some ss → vs = ss.map V.str
  | _, _, _, .nil, h => by cases h; rfl
  | _, _, ss, .cons r rs, h => by
    cases r with
    | str s =>
      unfold strsOf at h
      obtain ⟨t, ht, rfl⟩ := Option.map_eq_some_iff.mp h
      rw [strs_reps rs ht]
      rfl
    | _ => cases h
theorem eqV_str (a b : Str) : eqV (.str a) (.str b) = decide (a = b) := by
  show (a == b) = _
  by_cases h : a = b
  · subst h; simp
  · simp [h]
variable {X : Cx} {cl : Cl} {E : XK} {a b : EM}
theorem de_idx {e : Expr} (h : PE X e (tBM X.K "list" (rIndex X.K) (tL X.K cl E a) (tCons (tD X.K cl E b) tNil))) : PE X e (tD X.K cl E (idxM a b)) := h.imp fun σ H Q ⟨W, ω, μ, S, env, rl, q⟩ => by
  refine ⟨W, ω, μ, S, env, rl, q.bind.mono fun x S1 μ1 H1 _ s1 e1 q1 v rv => ?_⟩
  have r1 := repR_of s1 rv
  revert q1 r1
  generalize hx : look S1 x = x'
  intro q1 r1
  cases x' with
  | lst xs =>
    obtain ⟨p, vs, rfl, h2, h3⟩ := repR_lst r1
    refine ⟨.inl ⟨rfl, vs, .of h2⟩, ⟨W, ω, μ1, S1, env, rl.ext e1 s1, SatG.mono (SatG.bind q1) fun y S2 μ2 H2 _ s2 e2 q2 u ru => ?_⟩⟩
    cases hz : idxF S2 x y with
    | none => rw [hz] at q2; exact q2.elim
    | some z =>
      rw [hz] at q2
      unfold idxF at hz
      have r2 := repR_of s2 (RepL.mono s1 e2 rv)
      revert hz r2
      generalize look S2 x = x2
      intro hz r2
      cases x2 with
      | lst ys =>
        cases y with
        | str s =>
          cases ru
          obtain ⟨p2, ws, e3, h4, h5⟩ := repR_lst r2
          cases e3
          dsimp only at hz
          obtain ⟨ss, hs, hz⟩ := Option.bind_eq_some_iff.mp hz
          obtain ⟨j, hj, rfl⟩ := Option.map_eq_some_iff.mp hz
          have ew := strs_reps h5 hs
          subst ew
          obtain ⟨hjl, hp, hno⟩ := List.findIdx?_eq_some_iff_getElem.mp hj
          refine ⟨p, ss.map V.str, .str s, j, .str ss[j], rfl, rfl, .of h4, rfl, ?_, ?_, ?_, fun m z' hm hz' => ?_, q2 μ2 H2 s2 Ext.refl _ (.int _)⟩
          · rw [List.all_map]
            exact List.all_eq_true.mpr fun _ _ => rfl
          · rw [List.getElem?_map, List.getElem?_eq_getElem hjl]
            rfl
          · rw [eqV_str]
            exact hp
          · rw [List.getElem?_map, List.getElem?_eq_getElem (by omega)] at hz'
            cases hz'
            rw [eqV_str]
            have := hno m hm
            simpa using this
        | _ => cases hz
      | _ => cases hz
  | _ => exact q1.elim
end Dm

set_option Elab.async false
set_option linter.all false
set_option maxRecDepth 100000
set_option autoImplicit false
set_option maxHeartbeats 1000000
/-! DmJ: plain tools: a mirror's run, stepwise. -/
namespace Dm
open PySem PySem.Spec L2
def Ret {α : Type} (r : Res α) (Q : α → Sto → Prop) : Prop := ∃ a S, r = .ok a S ∧ Q a S
theorem Ret.bind {α β : Type} {r : Res α} {k : α → Sto → Res β} {P : α → Sto → Prop} {Q : β → Sto → Prop} (h : Ret r P) (n : ∀ a S, P a S → Ret (k a S) Q) : Ret (r.bind k) Q := by
  obtain ⟨a, S, rfl, p⟩ := h
  exact n a S p
theorem Ret.mono {α : Type} {r : Res α} {P Q : α → Sto → Prop} (h : Ret r P) (n : ∀ a S, P a S → Q a S) : Ret r Q := by
  obtain ⟨a, S, e, p⟩ := h
  exact ⟨a, S, e, n a S p⟩
@[simp] theorem ret_ok {α : Type} {a : α} {S : Sto} {Q : α → Sto → Prop} : Ret (.ok a S) Q ↔ Q a S := ⟨fun ⟨_, _, e, q⟩ => by cases e; exact q, fun q => ⟨a, S, rfl, q⟩⟩
theorem Ret.nox {α : Type} {r : Res α} {P : α → Sto → Prop} (h : Ret r P) : Ret r.nox P := by
  obtain ⟨a, S, rfl, p⟩ := h
  exact ⟨a, S, rfl, p⟩
theorem loop_ret {f : TF} {b : SM} (I : Nat → List Sv → Sto → Prop) : ∀ (xs : List Vl) (n : Nat) (env : List Sv) (S : Sto), I n env S →
    (∀ i x env S, xs[i]? = some x → I (n + i) env S → ∃ env1, f x env = some env1 ∧ Ret (b env1 S) fun fl S1 => ∃ e2, (fl = .nx e2 ∨ fl = .ct e2) ∧ I (n + i + 1) e2 S1) →
    Ret (loopS f b xs env S) fun fl S1 => ∃ e, fl = .nx e ∧ I (n + xs.length) e S1
  | [], n, env, S, h, _ => ⟨_, _, rfl, env, rfl, h⟩
  | x :: xs, n, env, S, h, st => by
    obtain ⟨env1, e1, r⟩ := st 0 x env S rfl h
    unfold loopS
    rw [e1]
    refine Ret.bind r fun fl S1 ⟨e2, hf, hi⟩ => ?_
    have rest := loop_ret I xs (n + 1) e2 S1 hi fun i y env S hy hI => by
      have := st (i + 1) y env S (by simpa using hy) (by rw [show n + (i + 1) = n + 1 + i from by omega]; exact hI)
      rw [show n + (i + 1) + 1 = n + 1 + i + 1 from by omega] at this
      exact this
    have e3 : n + 1 + xs.length = n + (x :: xs).length := by simp; omega
    rw [e3] at rest
    rcases hf with rfl | rfl <;> exact rest
theorem comp_ret {f : TF} {tt : TM} {te : EM} {env : List Sv} (I : Sto → Prop) (R : Nat → Vl → Vl → Prop) : ∀ (xs : List Vl) (n : Nat) (S : Sto), I S →
    (∀ i x S, xs[i]? = some x → I S → ∃ env1, f x env = some env1 ∧ Ret (tt env1 S) fun k S1 => k = true ∧ Ret (te env1 S1) fun y S2 => I S2 ∧ R (n + i) x y) →
    Ret (compL f tt te env xs S) fun ys S1 => I S1 ∧ ys.length = xs.length ∧ ∀ (i : Nat) (x y : Vl), xs[i]? = some x → ys[i]? = some y → R (n + i) x y
  | [], n, S, h, _ => ⟨_, _, rfl, h, rfl, fun i x y hx _ => by simp at hx⟩
  | x :: xs, n, S, h, st => by
    obtain ⟨env1, e1, r⟩ := st 0 x S rfl h
    unfold compL
    rw [e1]
    refine Ret.bind r.nox fun k S1 ⟨hk, r2⟩ => ?_
    subst hk
    refine Ret.bind r2.nox fun y S2 ⟨hi, hR⟩ => ?_
    refine Ret.bind (comp_ret I R xs (n + 1) S2 hi fun i z S hz hI => ?_) fun ys S3 ⟨h3, hl, hr⟩ => ?_
    · have := st (i + 1) z S (by simpa using hz) hI
      rw [show n + (i + 1) = n + 1 + i from by omega] at this
      exact this
    · refine ⟨_, _, rfl, h3, by simp [hl], fun i a c ha hc => ?_⟩
      cases i with
      | zero =>
        simp at ha hc
        subst ha hc
        exact hR
      | succ i =>
        have := hr i a c (by simpa using ha) (by simpa using hc)
        rw [show n + (i + 1) = n + 1 + i from by omega]
        exact this
/-- a comprehension that only reckons -/
theorem comp_map {f : TF} {te : EM} {env : List Sv} {S : Sto} (g : Vl → Vl) : ∀ (xs : List Vl), (∀ x ∈ xs, ∃ env1, f x env = some env1 ∧ te env1 S = .ok (g x) S) → compL f yesT te env xs S = .ok (xs.map g) S
  | [], _ => rfl
  | x :: xs, h => by
    obtain ⟨env1, e1, r⟩ := h x (List.mem_cons_self ..)
    unfold compL
    rw [e1]
    have t := comp_map g xs fun y hy => h y (List.mem_cons_of_mem _ hy)
    show (te env1 S).nox.bind (fun y S2 => (compL f yesT te env xs S2).bind fun ys S3 => Res.ok (y :: ys) S3) = _
    rw [r]
    show (compL f yesT te env xs S).bind (fun ys S3 => Res.ok (g x :: ys) S3) = _
    rw [t]
    rfl
section
variable {env : List Sv} {S : Sto} {a b c m o : EM} {tA tB tt : TM} {A : AM} {im : IM} {f g : F2} {f1 : F1} {fa : FA} {l h : OM} {i j : Nat} {x y : Vl} {Q : Vl → Sto → Prop} {QT : Bool → Sto → Prop} {QA : List Vl → Sto → Prop} {QO : Option Int → Sto → Prop}
theorem w_var (e : env[i]? = some (.v x)) (q : Q x S) : Ret (varM i env S) Q := by
  unfold varM
  rw [e]
  exact ⟨_, _, rfl, q⟩
theorem w_varL (e : env[i]? = some (.v x)) (q : Q x S) : Ret (varL i env S) Q := by
  unfold varL
  rw [e]
  exact ⟨_, _, rfl, q⟩
theorem w_varO (e : env[i]? = some (.ow x)) (q : Q x S) : Ret (varL i env S) Q := by
  unfold varL
  rw [e]
  exact ⟨_, _, rfl, q⟩
theorem w_c (q : Q x S) : Ret (cM x env S) Q := ⟨_, _, rfl, q⟩
theorem w_op {o : Option Vl} (h : ∃ v, o = some v ∧ Q v S) : Ret (match o with | some v => Res.ok v S | none => .bad) Q := by
  obtain ⟨v, rfl, q⟩ := h
  exact ⟨_, _, rfl, q⟩
theorem w_bin (h : Ret (a env S) fun x S1 => Ret (b env S1) fun y S2 => ∃ v, f S2 x y = some v ∧ Q v S2) : Ret (bin2 f a b env S) Q := h.bind fun _ _ h => h.bind fun _ _ h => w_op h
theorem w_un (h : Ret (a env S) fun x S1 => ∃ v, f1 S1 x = some v ∧ Q v S1) : Ret (un1 f1 a env S) Q := h.bind fun _ _ h => w_op h
theorem w_cB (h : Ret (A env S) fun xs S1 => ∃ v, fa S1 xs = some v ∧ Q v S1) : Ret (cB fa A env S) Q := h.bind fun _ _ h => w_op h
theorem w_tv (h : Ret (m env S) fun x S1 => ∃ k, x = .bl k ∧ QT k S1) : Ret (tv m env S) QT := h.bind fun x S1 h => by
  obtain ⟨k, rfl, q⟩ := h
  exact ⟨_, _, rfl, q⟩
theorem w_andT (h : Ret (tA env S) fun k S1 => (k = true → Ret (tB env S1) QT) ∧ (k = false → QT false S1)) : Ret (andT tA tB env S) QT := h.bind fun k S1 h => by
  cases k
  · exact ⟨_, _, rfl, h.2 rfl⟩
  · exact h.1 rfl
theorem w_orT (h : Ret (tA env S) fun k S1 => (k = true → QT true S1) ∧ (k = false → Ret (tB env S1) QT)) : Ret (orT tA tB env S) QT := h.bind fun k S1 h => by
  cases k
  · exact h.2 rfl
  · exact ⟨_, _, rfl, h.1 rfl⟩
theorem w_notT (h : Ret (tA env S) fun k S1 => QT (!k) S1) : Ret (notT tA env S) QT := h.bind fun k S1 h => ⟨_, _, rfl, h⟩
theorem w_andV (h : Ret (a env S) fun x S1 => ∃ k, x = .bl k ∧ (k = true → Ret (b env S1) Q) ∧ (k = false → Q (.bl false) S1)) : Ret (andV a b env S) Q := h.bind fun x S1 h => by
  obtain ⟨k, rfl, h⟩ := h
  cases k
  · exact ⟨_, _, rfl, h.2 rfl⟩
  · exact h.1 rfl
theorem w_orV (h : Ret (a env S) fun x S1 => ∃ k, x = .bl k ∧ (k = true → Q (.bl true) S1) ∧ (k = false → Ret (b env S1) Q)) : Ret (orV a b env S) Q := h.bind fun x S1 h => by
  obtain ⟨k, rfl, h⟩ := h
  cases k
  · exact h.2 rfl
  · exact ⟨_, _, rfl, h.1 rfl⟩
theorem w_notV (h : Ret (a env S) fun x S1 => ∃ k, x = .bl k ∧ Q (.bl (!k)) S1) : Ret (notV a env S) Q := h.bind fun x S1 h => by
  obtain ⟨k, rfl, h⟩ := h
  exact ⟨_, _, rfl, h⟩
theorem w_ifM (h : Ret (tA env S) fun k S1 => (k = true → Ret (a env S1) Q) ∧ (k = false → Ret (b env S1) Q)) : Ret (ifM tA a b env S) Q := h.bind fun k S1 h => by
  cases k
  · exact h.2 rfl
  · exact h.1 rfl
theorem w_ch (h : Ret (a env S) fun x S1 => Ret (b env S1) fun y S2 => ∃ k, f S2 x y = some (.bl k) ∧ (k = true → Ret (c env S2) fun z S3 => ∃ v, g S3 y z = some v ∧ Q v S3) ∧ (k = false → Q (.bl false) S2)) : Ret (ch3 f g a b c env S) Q := h.bind fun x S1 h => h.bind fun y S2 h => by
  obtain ⟨k, e, h⟩ := h
  rw [e]
  cases k
  · exact ⟨_, _, rfl, h.2 rfl⟩
  · exact (h.1 rfl).bind fun _ _ h => w_op h
theorem w_nil (h : QA [] S) : Ret (nilA env S) QA := ⟨_, _, rfl, h⟩
theorem w_cons (h : Ret (m env S) fun x S1 => Ret (A env S1) fun xs S2 => QA (x :: xs) S2) : Ret (consA m A env S) QA := h.bind fun x S1 h => h.bind fun xs S2 h => ⟨_, _, rfl, h⟩
theorem w_tup (h : Ret (A env S) fun xs S1 => Q (.tup xs) S1) : Ret (tupM A env S) Q := h.bind fun xs S1 h => ⟨_, _, rfl, h⟩
theorem w_lst (h : Ret (A env S) fun xs S1 => Q (.lst xs) S1) : Ret (lstM A env S) Q := h.bind fun xs S1 h => ⟨_, _, rfl, h⟩
theorem w_call {r : List Vl → Sto → Res Vl} (h : Ret (A env S) fun xs S1 => Ret (r xs S1) Q) : Ret (callM r A env S) Q := h.bind fun xs S1 h => h
theorem w_callD {r : List Vl → Sto → Res Vl} {ds : List Vl} (h : Ret (A env S) fun xs S1 => Ret (r (xs ++ ds) S1) Q) : Ret (callD r ds A env S) Q := h.bind fun xs S1 h => h
theorem w_callL {r : List Vl → Sto → Res Vl} (he : envOk env = true) (h : Ret (A env S) fun xs S1 => Ret (r xs S1) fun x S2 => nlB x = true ∧ stOk S2 = true ∧ Q x S2) : Ret (callL r A env S) Q := by
  unfold callL
  rw [if_pos he]
  refine h.bind fun xs S1 h => ?_
  obtain ⟨x, S2, e, h1, h2, q⟩ := h
  rw [e]
  dsimp only
  rw [h1, h2]
  exact ⟨_, _, rfl, q⟩
theorem w_make {r : Addr → List Vl → Sto → Res Vl} (h : Ret (A env S) fun xs S1 => Ret (r 0 xs S1) Q) : Ret (makeM r A env S) Q := h.bind fun xs S1 h => h
theorem w_makeK {r : Addr → List Vl → Sto → Res Vl} {ix : List Nat} (h : Ret (A env S) fun xs S1 => Ret (r 0 (pick ix xs) S1) Q) : Ret (makeK r ix A env S) Q := h.bind fun xs S1 h => h
theorem w_makeL {r : Addr → List Vl → Sto → Res Vl} (he : envOk env = true) (h : Ret (A env S) fun xs S1 => Ret (r 0 xs S1) fun x S2 => nlO x = true ∧ stOk S2 = true ∧ Q x S2) : Ret (makeL r A env S) Q := by
  unfold makeL
  rw [if_pos he]
  refine h.bind fun xs S1 h => ?_
  obtain ⟨x, S2, e, h1, h2, q⟩ := h
  rw [e]
  dsimp only
  rw [h1, h2]
  exact ⟨_, _, rfl, q⟩
theorem w_eqC {k : Nat} {r : List Vl → Sto → Res Vl} {n : Bool → Bool} (h : Ret (a env S) fun x S1 => Ret (b env S1) fun y S2 => eqOk S2 k x y = true ∧ Ret (r [x, y] S2) fun z S3 => ∃ q, z = .bl q ∧ Q (.bl (n q)) S3) : Ret (binC k r n a b env S) Q := h.bind fun x S1 h => h.bind fun y S2 h => by
  rw [if_pos h.1]
  exact h.2.bind fun z S3 ⟨q, hz, hq⟩ => by subst hz; exact ⟨_, _, rfl, hq⟩
theorem w_fld {k : Nat} {nm : Str} (h : Ret (a env S) fun x S1 => ∃ ns xs v, look S1 x = .ins k ns xs ∧ fGet ns xs nm = some v ∧ Q v S1) : Ret (fldM k nm a env S) Q := h.bind fun x S1 h => by
  obtain ⟨ns, xs, v, e1, e2, q⟩ := h
  rw [e1]
  dsimp only
  rw [if_pos rfl, e2]
  exact ⟨_, _, rfl, q⟩
theorem w_meth {k : Nat} {nm : Str} {r : List Vl → Sto → Res Vl} (h : Ret (a env S) fun x S1 => ∃ ns xs, look S1 x = .ins k ns xs ∧ fGet ns xs nm = none ∧ Ret (A env S1) fun ys S2 => Ret (r (x :: ys) S2) Q) : Ret (methM k nm r a A env S) Q := h.bind fun x S1 h => by
  obtain ⟨ns, xs, e1, e2, q⟩ := h
  rw [e1]
  dsimp only
  rw [if_pos ⟨rfl, e2⟩]
  exact q.bind fun _ _ h => h
theorem w_isi {ts : List Ty} (h : Ret (a env S) fun x S1 => ∃ t, tyOf S1 x = some t ∧ Q (.bl (ts.any (isaB t))) S1) : Ret (isiM ts a env S) Q := h.bind fun x S1 h => by
  obtain ⟨t, e, q⟩ := h
  rw [e]
  exact ⟨_, _, rfl, q⟩
theorem w_iso {ds cs : List Nat} (h : Ret (a env S) fun x S1 => (∃ d ns xs, look S1 x = .ins d ns xs ∧ d ∈ cs ∧ Q (.bl (decide (d ∈ ds))) S1) ∨ ((∃ t, tyOf S1 x = some t) ∧ Q (.bl false) S1)) : Ret (isoM ds cs a env S) Q := h.bind fun x S1 h => by
  rcases h with ⟨d, ns, xs, e, hd, q⟩ | ⟨⟨t, e⟩, q⟩
  · rw [e]
    dsimp only
    rw [if_pos hd]
    exact ⟨_, _, rfl, q⟩
  · have : ∀ z, look S1 x = z → Ret (match z with | .ins d _ _ => (if d ∈ cs then Res.ok (.bl (decide (d ∈ ds))) S1 else .bad) | _ => match tyOf S1 x with | some _ => .ok (.bl false) S1 | none => .bad) Q := fun z hz => by
      rw [e]
      cases z with
      | ins d ns xs => unfold tyOf at e; rw [hz] at e; cases e
      | _ => exact ⟨_, _, rfl, q⟩
    exact this _ rfl
theorem w_oN (h : QO none S) : Ret (oN env S) QO := ⟨_, _, rfl, h⟩
theorem w_oS (h : Ret (m env S) fun x S1 => ∃ n, x = .int n ∧ QO (some n) S1) : Ret (oS m env S) QO := h.bind fun x S1 h => by
  obtain ⟨n, rfl, q⟩ := h
  exact ⟨_, _, rfl, q⟩
theorem w_sl (hh : Ret (a env S) fun x S1 => Ret (l env S1) fun p S2 => Ret (h env S2) fun q S3 => ∃ v, slF S3 x p q = some v ∧ Q v S3) : Ret (slM a l h env S) Q := hh.bind fun _ _ h => h.bind fun _ _ h => h.bind fun _ _ h => w_op h
theorem w_slN (hh : Ret (a env S) fun x S1 => Ret (l env S1) fun p S2 => Ret (h env S2) fun q S3 => ∃ v, slLF S3 x p q = some v ∧ Q v S3) : Ret (slN a l h env S) Q := hh.bind fun _ _ h => h.bind fun _ _ h => h.bind fun _ _ h => w_op h
theorem w_seqI (h : Ret (m env S) fun x S1 => ∃ xs, seqOf x = some xs ∧ QA xs S1) : Ret (seqI m env S) QA := h.bind fun x S1 h => by
  obtain ⟨xs, e, q⟩ := h
  rw [e]
  exact ⟨_, _, rfl, q⟩
theorem w_rng1 (h : Ret (A env S) fun xs S1 => ∃ n : Int, xs = [.int n] ∧ (-(2 ^ 62) ≤ n ∧ n ≤ 16777216) ∧ QA (rgI 0 n.toNat) S1) : Ret (rngI A env S) QA := h.bind fun xs S1 h => by
  obtain ⟨n, rfl, hn, q⟩ := h
  dsimp only
  rw [if_pos hn]
  exact ⟨_, _, rfl, q⟩
theorem w_enI (h : Ret (A env S) fun xs S1 => ∃ x ys, xs = [x] ∧ seqOf x = some ys ∧ QA (enL ys) S1) : Ret (enI A env S) QA := h.bind fun xs S1 h => by
  obtain ⟨x, ys, rfl, e, q⟩ := h
  dsimp only
  rw [e]
  exact ⟨_, _, rfl, q⟩
theorem w_zpI (h : Ret (A env S) fun xs S1 => ∃ x y ys zs, xs = [x, y] ∧ seqOf x = some ys ∧ seqOf y = some zs ∧ QA (zpL ys zs) S1) : Ret (zpI A env S) QA := h.bind fun xs S1 h => by
  obtain ⟨x, y, ys, zs, rfl, e, e2, q⟩ := h
  dsimp only
  rw [e, e2]
  exact ⟨_, _, rfl, q⟩
theorem w_strI (h : Ret (m env S) fun x S1 => ∃ z, x = .str z ∧ z.cps.size ≤ 16777216 ∧ QA (chars z) S1) : Ret (strI m env S) QA := h.bind fun x S1 h => by
  obtain ⟨z, rfl, hz, q⟩ := h
  dsimp only
  rw [if_pos hz]
  exact ⟨_, _, rfl, q⟩
theorem w_comp {vs : List Nat} {k : TF} {env1 : List Sv} (hw : wipeE vs env = some env1) (h : Ret (im env S) fun xs S1 => Ret (compL k tt m env1 xs S1) fun ys S2 => Q (.lst ys) S2) : Ret (compM im vs k tt m env S) Q := h.bind fun xs S1 h => by
  rw [hw]
  exact h.bind fun ys S2 h => ⟨_, _, rfl, h⟩
variable {s1 s2 s3 : SM} {QF : Fl → Sto → Prop}
theorem w_run {N : Nat} {xs : List Vl} (h : Ret (s1 (startE N xs) S) fun fl S1 => match fl with | .rt x => Q x S1 | .nx _ => Q .non S1 | _ => False) : Ret (runM N s1 xs S) Q := h.bind fun fl S1 h => by
  cases fl <;> first | exact ⟨_, _, rfl, h⟩ | exact h.elim
theorem w_init {N k : Nat} {xs : List Vl} {p : Addr} (h : Ret (s1 (startI N k p xs) S) fun fl S1 => ∃ x r, fl = .nx (.sf p x :: r) ∧ Q x S1) : Ret (runI N k s1 p xs S) Q := h.bind fun fl S1 h => by
  obtain ⟨x, r, rfl, q⟩ := h
  have e : selfOf p (.sf p x :: r) = some x := if_pos rfl
  dsimp only
  rw [e]
  exact ⟨_, _, rfl, q⟩
theorem w_nilS (h : QF (.nx env) S) : Ret (nilS env S) QF := ⟨_, _, rfl, h⟩
theorem w_ret (h : Ret (m env S) fun x S1 => QF (.rt x) S1) : Ret (retS m env S) QF := h.bind fun x S1 h => ⟨_, _, rfl, h⟩
theorem w_retO (e : env[i]? = some (.ow x)) (h : QF (.rt x) S) : Ret (retV i env S) QF := by
  unfold retV
  rw [e]
  exact ⟨_, _, rfl, h⟩
theorem w_ifS (h : Ret (tA env S) fun k S1 => (k = true → Ret (s1 env S1) QF) ∧ (k = false → Ret (s2 env S1) QF)) : Ret (ifS tA s1 s2 env S) QF := h.bind fun k S1 h => by
  cases k
  · exact h.2 rfl
  · exact h.1 rfl
theorem w_set (h : Ret (m env S) fun x S1 => QF (.nx (env.set i (.v x))) S1) : Ret (setS i m env S) QF := h.bind fun x S1 h => ⟨_, _, rfl, h⟩
theorem w_expr (h : Ret (m env S) fun _ S1 => QF (.nx env) S1) : Ret (exprS m env S) QF := h.bind fun x S1 h => ⟨_, _, rfl, h⟩
theorem w_app {xs : List Vl} (e : env[i]? = some (.ow (.lst xs))) (h : Ret (m env S) fun x S1 => xs.length < 16777216 ∧ QF (.nx (env.set i (.ow (.lst (xs ++ [x]))))) S1) : Ret (appO i m env S) QF := by
  unfold appO
  rw [e]
  refine h.bind fun x S1 h => ?_
  rw [if_pos h.1]
  exact ⟨_, _, rfl, h.2⟩
theorem w_setR {mo mi mv : EM} (h : Ret (mv env S) fun x S1 => Ret (mo env S1) fun o S2 => Ret (mi env S2) fun j S3 => ∃ n k xs t, o = .ref n ∧ j = .int k ∧ S3[n]? = some (.lst xs) ∧ ixN xs.length k = some t ∧ QF (.nx env) (S3.set n (.lst (xs.set t x)))) : Ret (setR mo mi mv env S) QF := h.bind fun x S1 h => h.bind fun o S2 h => h.bind fun j S3 h => by
  obtain ⟨n, k, xs, t, rfl, rfl, e1, e2, q⟩ := h
  dsimp only
  rw [e1]
  dsimp only
  rw [e2]
  exact ⟨_, _, rfl, q⟩
theorem w_sf {k : Nat} {nm : Str} {p : Addr} {ns : List Str} {xs : List Vl} (h : Ret (m env S) fun y S1 => ∃ p ns xs, env[i]? = some (.sf p (.ins k ns xs)) ∧ ns.length < 1000 ∧ QF (.nx (env.set i (.sf p (.ins k (fPut ns xs nm y).1 (fPut ns xs nm y).2)))) S1) : Ret (sfS k nm i m env S) QF := h.bind fun y S1 h => by
  obtain ⟨p, ns, xs, e, hl, q⟩ := h
  rw [e]
  dsimp only
  rw [if_pos ⟨rfl, hl⟩]
  exact ⟨_, _, rfl, q⟩
/-- one after another -/
theorem w_seq (h : Ret (s1 env S) fun fl S1 => match fl with | .nx e => Ret (s2 e S1) QF | f => QF f S1) : Ret (seqS s1 s2 env S) QF := h.bind fun fl S1 h => by
  cases fl <;> first | exact h | exact ⟨_, _, rfl, h⟩
theorem w_assoc (h : Ret (seqS s1 (seqS s2 s3) env S) QF) : Ret (seqS (seqS s1 s2) s3 env S) QF := by
  have : seqS (seqS s1 s2) s3 env S = seqS s1 (seqS s2 s3) env S := by
    unfold seqS
    cases s1 env S with
    | ok fl S1 => cases fl <;> rfl
    | _ => rfl
  rw [this]
  exact h
theorem w_qnil (h : Ret (s2 env S) QF) : Ret (seqS nilS s2 env S) QF := w_seq (w_nilS h)
theorem w_qset (h : Ret (m env S) fun x S1 => Ret (s2 (env.set i (.v x)) S1) QF) : Ret (seqS (setS i m) s2 env S) QF := w_seq (w_set h)
theorem w_qown (h : Ret (m env S) fun x S1 => Ret (s2 (env.set i (.ow x)) S1) QF) : Ret (seqS (ownS i m) s2 env S) QF := w_seq (h.bind fun x S1 h => ⟨_, _, rfl, h⟩)
theorem w_qnew (h : Ret (m env S) fun x S1 => Ret (s2 (env.set i (.v (.ref S1.length))) (S1 ++ [x])) QF) : Ret (seqS (newS i m) s2 env S) QF := w_seq (h.bind fun x S1 h => ⟨_, _, rfl, h⟩)
theorem w_qexpr (h : Ret (m env S) fun _ S1 => Ret (s2 env S1) QF) : Ret (seqS (exprS m) s2 env S) QF := w_seq (w_expr h)
theorem w_qret (h : Ret (m env S) fun x S1 => QF (.rt x) S1) : Ret (seqS (retS m) s2 env S) QF := w_seq (w_ret h)
theorem w_qif (h : Ret (tA env S) fun k S1 => (k = true → Ret (seqS s1 s3 env S1) QF) ∧ (k = false → Ret (seqS s2 s3 env S1) QF)) : Ret (seqS (ifS tA s1 s2) s3 env S) QF := by
  refine w_seq (w_ifS (h.mono fun k S1 h => ⟨fun hk => ?_, fun hk => ?_⟩))
  · obtain ⟨f, S2, e, q⟩ := h.1 hk
    unfold seqS at e
    cases hr : s1 env S1 with
    | ok fl S3 =>
      rw [hr] at e
      refine ⟨fl, S3, rfl, ?_⟩
      cases fl with
      | nx en => exact ⟨f, S2, e, q⟩
      | _ => cases e; exact q
    | _ => rw [hr] at e; cases e
  · obtain ⟨f, S2, e, q⟩ := h.2 hk
    unfold seqS at e
    cases hr : s2 env S1 with
    | ok fl S3 =>
      rw [hr] at e
      refine ⟨fl, S3, rfl, ?_⟩
      cases fl with
      | nx en => exact ⟨f, S2, e, q⟩
      | _ => cases e; exact q
    | _ => rw [hr] at e; cases e
theorem w_qapp {xs : List Vl} (e : env[i]? = some (.ow (.lst xs))) (h : Ret (m env S) fun x S1 => xs.length < 16777216 ∧ Ret (s2 (env.set i (.ow (.lst (xs ++ [x])))) S1) QF) : Ret (seqS (appO i m) s2 env S) QF := w_seq (w_app e h)
theorem w_qclr {xs : List Vl} (e : env[i]? = some (.ow (.lst xs))) (h : Ret (s2 (env.set i (.ow (.lst []))) S) QF) : Ret (seqS (clrO i) s2 env S) QF := w_seq (by
  unfold clrO
  rw [e]
  exact ⟨_, _, rfl, h⟩)
theorem w_qsetR {mo mi mv : EM} (h : Ret (mv env S) fun x S1 => Ret (mo env S1) fun o S2 => Ret (mi env S2) fun j S3 => ∃ n k xs t, o = .ref n ∧ j = .int k ∧ S3[n]? = some (.lst xs) ∧ ixN xs.length k = some t ∧ Ret (s2 env (S3.set n (.lst (xs.set t x)))) QF) : Ret (seqS (setR mo mi mv) s2 env S) QF := w_seq (w_setR h)
theorem w_qsf {k : Nat} {nm : Str} (h : Ret (m env S) fun y S1 => ∃ p ns xs, env[i]? = some (.sf p (.ins k ns xs)) ∧ ns.length < 1000 ∧ Ret (s2 (env.set i (.sf p (.ins k (fPut ns xs nm y).1 (fPut ns xs nm y).2))) S1) QF) : Ret (seqS (sfS k nm i m) s2 env S) QF := w_seq (w_sf (p := 0) (ns := []) (xs := []) h)
theorem w_sf2 {k : Nat} {nm : Str} (h : Ret (m env S) fun y S1 => ∃ p ns xs ns' xs', env[i]? = some (.sf p (.ins k ns xs)) ∧ fPut ns xs nm y = (ns', xs') ∧ ns.length < 1000 ∧ QF (.nx (env.set i (.sf p (.ins k ns' xs')))) S1) : Ret (sfS k nm i m env S) QF := w_sf (p := 0) (ns := []) (xs := []) (h.mono fun y S1 ⟨p, ns, xs, ns', xs', e, e2, hl, q⟩ => ⟨p, ns, xs, e, hl, by rw [e2]; exact q⟩)
theorem w_qsf2 {k : Nat} {nm : Str} (h : Ret (m env S) fun y S1 => ∃ p ns xs ns' xs', env[i]? = some (.sf p (.ins k ns xs)) ∧ fPut ns xs nm y = (ns', xs') ∧ ns.length < 1000 ∧ Ret (s2 (env.set i (.sf p (.ins k ns' xs'))) S1) QF) : Ret (seqS (sfS k nm i m) s2 env S) QF := w_seq (w_sf2 h)
theorem w_qpar (h : Ret (a env S) fun x S1 => Ret (b env S1) fun y S2 => Ret (s2 ((env.set i (.v x)).set j (.v y)) S2) QF) : Ret (seqS (par2 i j a b) s2 env S) QF := w_seq (h.bind fun x S1 h => h.bind fun y S2 h => ⟨_, _, rfl, h⟩)
theorem w_qparVO (h : Ret (a env S) fun x S1 => Ret (b env S1) fun y S2 => Ret (s2 ((env.set i (.v x)).set j (.ow y)) S2) QF) : Ret (seqS (parVO i j a b) s2 env S) QF := w_seq (h.bind fun x S1 h => h.bind fun y S2 h => ⟨_, _, rfl, h⟩)
theorem w_qparOO (hl : i < env.length ∧ j < env.length) (h : Ret (a env S) fun x S1 => Ret (b env S1) fun y S2 => Ret (s2 ((env.set i (.ow x)).set j (.ow y)) S2) QF) : Ret (seqS (parOO i j a b) s2 env S) QF := w_seq (h.bind fun x S1 h => h.bind fun y S2 h => by
  rw [if_pos hl]
  exact ⟨_, _, rfl, h⟩)
theorem w_qparOV (hl : i < env.length) (h : Ret (a env S) fun x S1 => Ret (b env S1) fun y S2 => Ret (s2 ((env.set i (.ow x)).set j (.v y)) S2) QF) : Ret (seqS (parOV2 i j a b) s2 env S) QF := w_seq (h.bind fun x S1 h => h.bind fun y S2 h => by
  rw [if_pos hl]
  exact ⟨_, _, rfl, h⟩)
theorem w_qunp {is : List Nat} (h : Ret (m env S) fun x S1 => ∃ xs, x = .tup xs ∧ xs.length = is.length ∧ Ret (s2 (setAll is xs env) S1) QF) : Ret (seqS (unpS is m) s2 env S) QF := w_seq (h.bind fun x S1 h => by
  obtain ⟨xs, rfl, hl, h⟩ := h
  dsimp only
  rw [if_pos hl]
  exact ⟨_, _, rfl, h⟩)
theorem w_qfor {k : TF} (h : Ret (im env S) fun xs S1 => Ret (loopS k s1 xs env S1) fun fl S2 => match fl with | .nx e => Ret (s2 e S2) QF | f => QF f S2) : Ret (seqS (forS im k s1) s2 env S) QF := w_seq (h.bind fun xs S1 h => h)
theorem w_for {k : TF} (h : Ret (im env S) fun xs S1 => Ret (loopS k s1 xs env S1) QF) : Ret (forS im k s1 env S) QF := h.bind fun xs S1 h => h
/-! ### operators -/
theorem f_ixR {n : Nat} {xs : List Vl} {k : Int} {v : Vl} (e : S[n]? = some (.lst xs)) (h : atI xs k = some v) : ixF S (.ref n) (.int k) = some v := by
  have e2 : look S (.ref n) = .lst xs := by
    unfold look
    dsimp only
    rw [e]
    rfl
  unfold ixF
  rw [e2]
  exact h
theorem f_add {p q : Int} : addF S (.int p) (.int q) = some (.int (p + q)) := rfl
theorem f_sub {p q : Int} : subF S (.int p) (.int q) = some (.int (p - q)) := rfl
theorem f_neg {p : Int} : negF S (.int p) = some (.int (-p)) := rfl
theorem f_cmp {r : Int → Int → Bool} {p q : Int} : cmpF r S (.int p) (.int q) = some (.bl (r p q)) := rfl
theorem f_int {p : Int} : intF S [.int p] = some (.int p) := rfl
theorem f_intB {p : Bool} : intF S [.bl p] = some (.int (if p then 1 else 0)) := rfl
theorem f_lenL {xs : List Vl} : lenF S [.lst xs] = some (.int xs.length) := rfl
theorem f_lenT {xs : List Vl} : lenF S [.tup xs] = some (.int xs.length) := rfl
theorem f_tupL {xs : List Vl} : tupF S [.lst xs] = some (.tup xs) := rfl
theorem f_tupT {xs : List Vl} : tupF S [.tup xs] = some (.tup xs) := rfl
theorem f_listL {xs : List Vl} : listF S [.lst xs] = some (.lst xs) := rfl
theorem f_listT {xs : List Vl} : listF S [.tup xs] = some (.lst xs) := rfl
theorem f_isN {v : Vl} : isNF S v .non = some (.bl v.isNon) := rfl
theorem f_slL {xs : List Vl} {p q : Option Int} : slF S (.lst xs) p q = some (.lst (cutL xs p q)) := rfl
theorem f_slT {xs : List Vl} {p q : Option Int} : slF S (.tup xs) p q = some (.tup (cutL xs p q)) := rfl
theorem f_slLL {xs : List Vl} {p q : Option Int} : slLF S (.lst xs) p q = some (.lst (cutL xs p q)) := rfl
theorem f_ixL {xs : List Vl} {k : Int} {v : Vl} (h : atI xs k = some v) : ixF S (.lst xs) (.int k) = some v := h
theorem f_ixT {xs : List Vl} {k : Int} {v : Vl} (h : atI xs k = some v) : ixF S (.tup xs) (.int k) = some v := h
theorem f_mod {p q : Int} (h : 0 < q) : modF S (.int p) (.int q) = some (.int (p % q)) := if_pos h
theorem f_fdiv {p q : Int} (h : 0 < q) (h2 : q < 2 ^ 200) : fdivF S (.int p) (.int q) = some (.int (p / q)) := if_pos ⟨h, h2⟩
theorem f_mul {p q : Int} (h : (-(2 ^ 64) < p ∧ p < 2 ^ 64) ∨ (-(2 ^ 64) < q ∧ q < 2 ^ 64)) : mulF S (.int p) (.int q) = some (.int (p * q)) := if_pos (.inl h)
theorem f_mulW {p q : Int} (h : p.natAbs < 2 ^ 300 ∧ q.natAbs < 2 ^ 300) : mulF S (.int p) (.int q) = some (.int (p * q)) := if_pos (.inr h)
theorem f_neI {p q : Int} : neF S (.int p) (.int q) = some (.bl (!decide (p = q))) := rfl
theorem f_eqI {p q : Int} : eqF S (.int p) (.int q) = some (.bl (decide (p = q))) := rfl
theorem f_lenS {z : Str} (h : z.cps.size ≤ 16777216) : lenF S [.str z] = some (.int z.cps.size) := if_pos h
theorem w_yes {k : Bool} {A B : Prop} (h : k = true) (a : A) : (k = true → A) ∧ (k = false → B) := ⟨fun _ => a, fun z => by rw [h] at z; cases z⟩
theorem w_no {k : Bool} {A B : Prop} (h : k = false) (b : B) : (k = true → A) ∧ (k = false → B) := ⟨fun z => (by rw [h] at z; cases z), fun _ => b⟩
theorem w_nyes {p : Prop} [Decidable p] {A B : Prop} (h : ¬ p) (a : A) : ((!decide p) = true → A) ∧ ((!decide p) = false → B) := w_yes (by rw [decide_eq_false h]; rfl) a
theorem w_nno {p : Prop} [Decidable p] {A B : Prop} (h : p) (b : B) : ((!decide p) = true → A) ∧ ((!decide p) = false → B) := w_no (by rw [decide_eq_true h]; rfl) b
theorem f_pow {p q : Int} (h : 0 ≤ q ∧ q ≤ 1000000 ∧ p.natAbs < 2 ^ 64) : powF S (.int p) (.int q) = some (.int (p ^ q.toNat)) := if_pos h
theorem f_shl {p q : Int} (h : 0 ≤ q ∧ q ≤ 1000000 ∧ p.natAbs < 2 ^ 64) : shlF S (.int p) (.int q) = some (.int (p * 2 ^ q.toNat)) := if_pos h
theorem f_eq (hx : okD (look S x) = true) (hy : okD (look S y) = true) : eqF S x y = some (.bl ((look S x).eqv (look S y))) := by
  unfold eqF
  rw [hx, hy]
  rfl
theorem f_ne (hx : okD (look S x) = true) (hy : okD (look S y) = true) : neF S x y = some (.bl (!(look S x).eqv (look S y))) := by
  unfold neF
  rw [hx, hy]
  rfl
end
end Dm

set_option Elab.async false
set_option linter.all false
set_option maxRecDepth 100000
set_option autoImplicit false
set_option maxHeartbeats 1000000
/-! DmK: plain tools: comprehensions by kinds, dicts, equality of data. -/
namespace Dm
open PySem PySem.Spec L2
section
variable {f : TF} {te : EM} {env : List Sv} {Q : Vl → Sto → Prop}
theorem comp_typ {T : Type} (enc : T → Vl) (P : Nat → T → Prop) (I : Sto → Prop) : ∀ (xs : List Vl) (n : Nat) (S : Sto), I S →
    (∀ i x S, xs[i]? = some x → I S → ∃ env1, f x env = some env1 ∧ Ret (te env1 S) fun y S1 => (∃ t, y = enc t ∧ P (n + i) t) ∧ I S1) →
    Ret (compL f yesT te env xs S) fun ys S1 => (∃ ts : List T, ys = ts.map enc ∧ ts.length = xs.length ∧ ∀ (i : Nat) (t : T), ts[i]? = some t → P (n + i) t) ∧ I S1
  | [], n, S, h, _ => ⟨_, _, rfl, ⟨[], rfl, rfl, fun i t ht => by simp at ht⟩, h⟩
  | x :: xs, n, S, h, st => by
    obtain ⟨env1, e1, r⟩ := st 0 x S rfl h
    unfold compL
    rw [e1]
    obtain ⟨y, S1, e2, ⟨t, rfl, hP⟩, hI⟩ := r
    show Ret ((te env1 S).nox.bind fun y S2 => (compL f yesT te env xs S2).bind fun ys S3 => Res.ok (y :: ys) S3) _
    rw [e2]
    show Ret ((compL f yesT te env xs S1).bind fun ys S3 => Res.ok (enc t :: ys) S3) _
    refine Ret.bind (comp_typ enc P I xs (n + 1) S1 hI fun i z S hz hI => ?_) fun ys S3 ⟨⟨ts, e, hl, hp⟩, h3⟩ => ?_
    · have := st (i + 1) z S (by simpa using hz) hI
      rw [show n + (i + 1) = n + 1 + i from by omega] at this
      exact this
    · subst e
      refine ⟨_, _, rfl, ⟨t :: ts, rfl, by simp [hl], fun i u hu => ?_⟩, h3⟩
      cases i with
      | zero =>
        simp at hu
        subst hu
        exact hP
      | succ i =>
        have := hp i u (by simpa using hu)
        rw [show n + (i + 1) = n + 1 + i from by omega]
        exact this
theorem bools_true (n : Nat) : bools (List.replicate n (.bl true)) = some (List.replicate n true) := by
  induction n with
  | zero => rfl
  | succ n ih => rw [List.replicate_succ, List.replicate_succ, bools, ih]; rfl
/-- [..] of tests: every part says True -/
theorem w_all {S : Sto} {xs : List Vl} {QA : List Vl → Sto → Prop} (h : ∀ (i : Nat) (x : Vl), xs[i]? = some x → ∃ env1, f x env = some env1 ∧ Ret (te env1 S) fun y S1 => y = .bl true ∧ S1 = S) (q : QA (List.replicate xs.length (.bl true)) S) :
    Ret (compL f yesT te env xs S) QA := by
  refine (comp_typ (fun _ : Unit => Vl.bl true) (fun _ _ => True) (fun S1 => S1 = S) xs 0 S rfl fun i x S1 hx hS => ?_).mono fun ys S1 ⟨⟨ts, e, hl, _⟩, hS⟩ => ?_
  · subst hS
    obtain ⟨env1, e1, r⟩ := h i x hx
    exact ⟨env1, e1, r.mono fun y S2 ⟨hy, hS⟩ => ⟨⟨(), hy, trivial⟩, hS⟩⟩
  · subst hS e
    have e2 : ts.map (fun _ : Unit => Vl.bl true) = List.replicate ts.length (.bl true) := List.map_const' ..
    rw [e2, hl]
    exact q
theorem f_all {S : Sto} {n : Nat} : allF S [.lst (List.replicate n (.bl true))] = some (.bl true) := by
  show (bools (List.replicate n (.bl true))).map (fun bs => Vl.bl (bs.all id)) = _
  rw [bools_true]
  simp
end
/-! ### dicts -/
theorem pairs_of (l : List (Str × Vl)) : pairsOf (l.map fun p => .tup [.str p.1, p.2]) = some (l.map fun p => (.inr p.1, p.2)) := by
  induction l with
  | nil => rfl
  | cons p l ih =>
    rw [List.map_cons, List.map_cons]
    show (match keyV (.str p.1), pairsOf (l.map fun p => .tup [.str p.1, p.2]) with | some q, some ps => some ((q, p.2) :: ps) | _, _ => none) = _
    rw [ih]
    rfl
theorem merge_nd : ∀ (l : List (Key × Vl)) (ks : List Key) (xs : List Vl), (l.map (·.1)).Nodup → (∀ k ∈ l.map (·.1), k ∉ ks) → mergeV l (ks, xs) = (ks ++ l.map (·.1), xs ++ l.map (·.2))
  | [], ks, xs, _, _ => by simp [mergeV]
  | (k, x) :: l, ks, xs, hn, hd => by
    have h1 : putV ks xs k x = (ks ++ [k], xs ++ [x]) := by
      unfold putV
      rw [if_neg]
      intro z
      obtain ⟨q, hq, e⟩ := List.any_eq_true.mp z
      exact hd k (by simp) (of_decide_eq_true e ▸ hq)
    unfold mergeV
    rw [h1]
    rw [List.map_cons, List.nodup_cons] at hn
    rw [merge_nd l _ _ hn.2 fun q hq z => ?_]
    · simp
    · rcases List.mem_append.mp z with z | z
      · exact hd q (List.mem_cons_of_mem _ hq) z
      · exact hn.1 (by rw [List.mem_singleton.mp z] at hq; exact hq)
def dkOf (l : List (Str × Vl)) : Vl := .dk (l.map fun p => .inr p.1) (l.map (·.2))
theorem f_dict {S : Sto} (l : List (Str × Vl)) (hn : (l.map (·.1)).Nodup) : dictF S [.lst (l.map fun p => .tup [.str p.1, p.2])] = some (dkOf l) := by
  show (pairsOf (l.map fun p => .tup [.str p.1, p.2])).map (fun ps => let d := mergeV ps ([], []); Vl.dk d.1 d.2) = _
  rw [pairs_of]
  have hn2 : ((l.map fun p => ((.inr p.1 : Key), p.2)).map (·.1)).Nodup := by
    rw [List.map_map]
    have : ((fun x : Key × Vl => x.1) ∘ fun p : Str × Vl => ((.inr p.1 : Key), p.2)) = Sum.inr ∘ (fun p : Str × Vl => p.1) := rfl
    rw [this, ← List.map_map]
    exact List.Pairwise.map Sum.inr (fun _ _ h z => h (Sum.inr.inj z)) hn
  have h := merge_nd (l.map fun p => (.inr p.1, p.2)) [] [] hn2 (fun _ _ z => nomatch z)
  show some (Vl.dk (mergeV _ ([], [])).1 (mergeV _ ([], [])).2) = _
  rw [h]
  simp [dkOf, List.map_map, Function.comp_def]
theorem dk_get (k : Str) : ∀ l : List (Str × Vl), dkGet (l.map fun p => .inr p.1) (l.map (·.2)) (.inr k) = (l.find? fun p => decide (p.1 = k)).map (·.2)
  | [] => rfl
  | (q, x) :: l => by
    show (if (Sum.inr q : Key) = .inr k then some x else dkGet (l.map fun p => .inr p.1) (l.map (·.2)) (.inr k)) = _
    by_cases h : q = k
    · subst h
      rw [if_pos rfl]
      simp
    · rw [if_neg (fun z => h (Sum.inr.inj z)), dk_get k l]
      simp [h]
theorem f_ixD {S : Sto} {l : List (Str × Vl)} {k : Str} {x : Vl} (h : (l.find? fun p => decide (p.1 = k)) = some (k, x)) : ixF S (dkOf l) (.str k) = some x := by
  show (keyV (.str k)).bind (dkGet (l.map fun p => .inr p.1) (l.map (·.2))) = some x
  show dkGet (l.map fun p => .inr p.1) (l.map (·.2)) (.inr k) = some x
  rw [dk_get, h]
  rfl
theorem f_inD {S : Sto} {l : List (Str × Vl)} {k : Str} : inF S (.str k) (dkOf l) = some (.bl (l.any fun p => decide (p.1 = k))) := by
  show ((keyV (.str k)).map fun q => (dkGet (l.map fun p => .inr p.1) (l.map (·.2)) q).isSome).map Vl.bl = _
  show some (Vl.bl (dkGet (l.map fun p => .inr p.1) (l.map (·.2)) (.inr k)).isSome) = _
  rw [dk_get, Option.isSome_map]
  have e : (l.find? fun p => decide (p.1 = k)).isSome = l.any fun p => decide (p.1 = k) := by
    induction l with
    | nil => rfl
    | cons p l ih =>
      by_cases h : p.1 = k
      · simp [h]
      · simp only [List.find?_cons, List.any_cons, decide_eq_false h, Bool.false_or]
        exact ih
  rw [e]
/-! ### equality of data without bools -/
mutual
def nbB : Vl → Bool
  | .non => true
  | .int _ => true
  | .str _ => true
  | .tup xs => nbBs xs
  | .lst xs => nbBs xs
  | .bl _ => false
  | .dk _ _ => false
  | .dt _ _ => false
  | .ins _ _ _ => false
  | .ref _ => false
  | .scr _ => false
  | .ftp _ => false
  | .tab _ _ => false
  | .exn _ _ _ => false
  | .fdk _ _ => false
  | .fdt _ _ => false
def nbBs : List Vl → Bool
  | [] => true
  | x :: xs => nbB x && nbBs xs
end
mutual
theorem eqv_eq : ∀ {x y : Vl}, nbB x = true → nbB y = true → PyData.eqv (toD x) (toD y) = true → x = y
  | .non, y, _, hy, h => by cases y <;> simp_all [nbB, toD, PyData.eqv]
  | .int i, y, _, hy, h => by cases y <;> simp_all [nbB, toD, PyData.eqv]
  | .str i, y, _, hy, h => by cases y <;> simp_all [nbB, toD, PyData.eqv]
  | .tup xs, y, hx, hy, h => by
    cases y with
    | tup ys =>
      have h1 : PyData.eqvAll (toDs xs) (toDs ys) = true := by simpa [toD, PyData.eqv] using h
      rw [eqvs_eq (by simpa [nbB] using hx) (by simpa [nbB] using hy) h1]
    | _ => simp_all [nbB, toD, PyData.eqv]
  | .lst xs, y, hx, hy, h => by
    cases y with
    | lst ys =>
      have h1 : PyData.eqvAll (toDs xs) (toDs ys) = true := by simpa [toD, PyData.eqv] using h
      rw [eqvs_eq (by simpa [nbB] using hx) (by simpa [nbB] using hy) h1]
    | _ => simp_all [nbB, toD, PyData.eqv]
  | .bl _, _, hx, _, _ => by simp [nbB] at hx
  | .dk _ _, _, hx, _, _ => by simp [nbB] at hx
  | .dt _ _, _, hx, _, _ => by simp [nbB] at hx
  | .ins _ _ _, _, hx, _, _ => by simp [nbB] at hx
  | .ref _, _, hx, _, _ => by simp [nbB] at hx
  | .scr _, _, hx, _, _ => by simp [nbB] at hx
  | .ftp _, _, hx, _, _ => by simp [nbB] at hx
  | .tab _ _, _, hx, _, _ => by simp [nbB] at hx
  | .exn _ _ _, _, hx, _, _ => by simp [nbB] at hx
  | .fdk _ _, _, hx, _, _ => by simp [nbB] at hx
  | .fdt _ _, _, hx, _, _ => by simp [nbB] at hx
theorem eqvs_eq : ∀ {xs ys : List Vl}, nbBs xs = true → nbBs ys = true → PyData.eqvAll (toDs xs) (toDs ys) = true → xs = ys
  | [], [], _, _, _ => rfl
  | [], _ :: _, _, _, h => by simp [toDs, PyData.eqvAll] at h
  | _ :: _, [], _, _, h => by simp [toDs, PyData.eqvAll] at h
  | x :: xs, y :: ys, hx, hy, h => by
    simp only [nbBs, Bool.and_eq_true] at hx hy
    simp only [toDs, PyData.eqvAll, Bool.and_eq_true] at h
    rw [eqv_eq hx.1 hy.1 h.1, eqvs_eq hx.2 hy.2 h.2]
end
theorem eqv_self {x : Vl} (h : okD x = true) : x.eqv x = true := SeqAt.eqv_refl _ (okN_ok h).1
theorem eqv_no {x y : Vl} (hx : nbB x = true) (hy : nbB y = true) (h : x ≠ y) : x.eqv y = false := by
  cases e : x.eqv y with
  | false => rfl
  | true => exact absurd (eqv_eq hx hy e) h
theorem nbBs_map {T : Type} (g : T → Vl) (h : ∀ t, nbB (g t) = true) : ∀ l : List T, nbBs (l.map g) = true
  | [] => rfl
  | t :: l => by
    show (nbB (g t) && nbBs (l.map g)) = true
    rw [h t, nbBs_map g h l]
    rfl
theorem nlBs_map {T : Type} (g : T → Vl) (h : ∀ t, nlB (g t) = true) : ∀ l : List T, nlBs (l.map g) = true
  | [] => rfl
  | t :: l => by
    show (nlB (g t) && nlBs (l.map g)) = true
    rw [h t, nlBs_map g h l]
    rfl
theorem all_map {T : Type} {n : Nat} (g : T → Vl) {l : List T} (h : ∀ t ∈ l, okN n (g t) = true) : (l.map g).all (okN n) = true := by
  rw [List.all_map]
  exact List.all_eq_true.mpr fun t ht => h t ht
/-! ### places, membership -/
theorem atI_nat {α : Type} (xs : List α) (k : Nat) : atI xs (k : Int) = xs[k]? := by
  unfold atI ixN
  rw [if_pos (by omega)]
  by_cases h : (k : Int) < xs.length
  · rw [if_pos h]
    show xs[(k : Int).toNat]? = xs[k]?
    rw [Int.toNat_natCast]
  · rw [if_neg h]
    exact (List.getElem?_eq_none (by omega)).symm
theorem atI_mem {α : Type} {xs : List α} {i : Int} (h0 : 0 ≤ i) (h1 : i < xs.length) : ∃ v, atI xs i = some v ∧ v ∈ xs := by
  obtain ⟨k, rfl⟩ := Int.eq_ofNat_of_zero_le h0
  have hk : k < xs.length := by omega
  exact ⟨xs[k], by rw [atI_nat]; exact List.getElem?_eq_getElem hk, List.getElem_mem hk⟩
theorem inV_strs (k : Str) : ∀ l : List Str, inV (.str k) ((l.map Vl.str).map fV) = decide (k ∈ l)
  | [] => rfl
  | q :: l => by
    show (eqV (.str q) (.str k) || inV (.str k) ((l.map Vl.str).map fV)) = _
    rw [inV_strs k l]
    show ((q == k) || decide (k ∈ l)) = _
    by_cases h : q = k
    · subst h
      simp
    · have h2 : ¬ k = q := fun z => h z.symm
      simp [h, h2]
theorem flat_strs (l : List Str) : (l.map Vl.str).all Vl.flat = true := by
  rw [List.all_map]
  exact List.all_eq_true.mpr fun _ _ => rfl
theorem f_inL {S : Sto} {k : Str} {l : List Str} : inF S (.str k) (.lst (l.map .str)) = some (.bl (decide (k ∈ l))) := by
  show (if (true && (l.map Vl.str).all Vl.flat) = true then some (inV (.str k) ((l.map Vl.str).map fV)) else none).map Vl.bl = _
  rw [flat_strs, if_pos (by rfl), inV_strs]
  rfl
theorem f_notInT {S : Sto} {k : Str} {l : List Str} : notInF S (.str k) (.tup (l.map .str)) = some (.bl (!decide (k ∈ l))) := by
  show (if (true && (l.map Vl.str).all Vl.flat) = true then some (inV (.str k) ((l.map Vl.str).map fV)) else none).map (fun b => Vl.bl (!b)) = _
  rw [flat_strs, if_pos (by rfl), inV_strs]
  rfl
theorem f_notInD {S : Sto} {l : List (Str × Vl)} {k : Str} : notInF S (.str k) (dkOf l) = some (.bl (!(l.any fun p => decide (p.1 = k)))) := by
  have h := f_inD (S := S) (l := l) (k := k)
  unfold inF at h
  unfold notInF
  cases e : inB S (.str k) (dkOf l) with
  | none => rw [e] at h; cases h
  | some b =>
    rw [e] at h
    cases h
    rfl
theorem rgI_at {n i : Nat} {x : Vl} (h : (rgI 0 n)[i]? = some x) : i < n ∧ x = .int i := by
  have hl := (List.getElem?_eq_some_iff.mp h).1
  rw [rgI_length] at hl
  rw [rgI_get hl] at h
  cases h
  exact ⟨hl, by simp⟩
theorem map_at {T : Type} {g : T → Vl} {l : List T} {i : Nat} {x : Vl} (h : (l.map g)[i]? = some x) : ∃ t, l[i]? = some t ∧ x = g t := by
  rw [List.getElem?_map] at h
  obtain ⟨t, ht, rfl⟩ := Option.map_eq_some_iff.mp h
  exact ⟨t, ht, rfl⟩
theorem enL_at {xs : List Vl} {i : Nat} {x : Vl} (h : (enL xs)[i]? = some x) : ∃ y, xs[i]? = some y ∧ x = .tup [.int i, y] := by
  have hl := (List.getElem?_eq_some_iff.mp h).1
  rw [enL_length] at hl
  have e := enL_get (List.getElem?_eq_getElem hl)
  rw [h] at e
  cases e
  exact ⟨_, List.getElem?_eq_getElem hl, rfl⟩
theorem zpL_at {xs ys : List Vl} {i : Nat} {x : Vl} (h : (zpL xs ys)[i]? = some x) : ∃ y z, xs[i]? = some y ∧ ys[i]? = some z ∧ x = .tup [y, z] := by
  have hl := (List.getElem?_eq_some_iff.mp h).1
  rw [zpL_length] at hl
  have e := zpL_get (List.getElem?_eq_getElem (show i < xs.length by omega)) (List.getElem?_eq_getElem (show i < ys.length by omega))
  rw [h] at e
  cases e
  exact ⟨_, _, List.getElem?_eq_getElem _, List.getElem?_eq_getElem _, rfl⟩
/-- a comprehension that only reckons, by kinds -/
theorem comp_pure {f : TF} {te : EM} {env : List Sv} {T : Type} (enc g : T → Vl) {S : Sto} {QA : List Vl → Sto → Prop} : ∀ (l : List T), (∀ t ∈ l, ∃ env1, f (enc t) env = some env1 ∧ Ret (te env1 S) fun y S1 => y = g t ∧ S1 = S) → QA (l.map g) S → Ret (compL f yesT te env (l.map enc) S) QA := fun l h q => by
  have e : compL f yesT te env (l.map enc) S = .ok (l.map g) S := by
    clear q
    induction l with
    | nil => rfl
    | cons t l ih =>
      obtain ⟨env1, e1, y, S1, e2, rfl, rfl⟩ := h t (List.mem_cons_self ..)
      have t2 := ih fun u hu => h u (List.mem_cons_of_mem _ hu)
      rw [List.map_cons]
      unfold compL
      rw [e1]
      show (te env1 S1).nox.bind (fun y S2 => (compL f yesT te env (l.map enc) S2).bind fun ys S3 => Res.ok (y :: ys) S3) = _
      rw [e2]
      show (compL f yesT te env (l.map enc) S1).bind (fun ys S3 => Res.ok (g t :: ys) S3) = _
      rw [t2]
      rfl
  rw [e]
  exact ⟨_, _, rfl, q⟩
/-- a tuple or a list -/
def sq : Bool → List Vl → Vl
  | true, xs => .tup xs
  | false, xs => .lst xs
theorem f_lenQ {S : Sto} {b : Bool} {xs : List Vl} : lenF S [sq b xs] = some (.int xs.length) := by cases b <;> rfl
theorem tyQ {S : Sto} {b : Bool} {xs : List Vl} : tyOf S (sq b xs) = some (if b then .tup else .lst) := by cases b <;> rfl
theorem seqQ {b : Bool} {xs : List Vl} : seqOf (sq b xs) = some xs := by cases b <;> rfl
theorem tupQ {S : Sto} {b : Bool} {xs : List Vl} : tupF S [sq b xs] = some (.tup xs) := by cases b <;> rfl
theorem isiQ {b : Bool} : [Ty.lst, Ty.tup].any (isaB (if b then Ty.tup else Ty.lst)) = true := by cases b <;> rfl
end Dm

set_option Elab.async false
set_option linter.all false
set_option maxRecDepth 100000
set_option autoImplicit false
set_option maxHeartbeats 1000000
/-! DmO: plain tools for exceptions, try, shared lists, filters. -/
namespace Dm
open PySem PySem.Spec L2
section
variable {env : List Sv} {S : Sto} {a b c m o : EM} {tA tB tt : TM} {A : AM} {im : IM} {f g : F2} {i j : Nat} {x y : Vl} {Q : Vl → Sto → Prop} {QA : List Vl → Sto → Prop} {s1 s2 s3 : SM} {QF : Fl → Sto → Prop}
theorem w_qfrz (e : env[i]? = some (.ow x)) (h : Ret (s2 (env.set i (.v x)) S) QF) : Ret (seqS (frzS i) s2 env S) QF := w_seq (by
  unfold frzS
  rw [e]
  exact ⟨_, _, rfl, h⟩)
theorem w_retW (h : Ret (m env S) fun x S1 => QF (.rt (.ref S1.length)) (S1 ++ [x])) : Ret (retW m env S) QF := h.bind fun x S1 h => ⟨_, _, rfl, h⟩
theorem w_qappR {n : Nat} {ys : List Vl} (e : env[i]? = some (.v (.ref n))) (e2 : S[n]? = some (.lst ys)) (h : Ret (m env S) fun x S1 => ∃ xs, S1[n]? = some (.lst xs) ∧ xs.length < 16777216 ∧ Ret (s2 env (S1.set n (.lst (xs ++ [x])))) QF) : Ret (seqS (appR i m) s2 env S) QF := w_seq (by
  unfold appR
  rw [e]
  dsimp only
  rw [e2]
  dsimp only
  refine h.bind fun x S1 ⟨xs, e3, hl, q⟩ => ?_
  rw [e3]
  dsimp only
  rw [if_pos hl]
  exact ⟨_, _, rfl, q⟩)
theorem w_dNew (h : Q (.dk [] []) S) : Ret (dNew env S) Q := ⟨_, _, rfl, h⟩
theorem f_addI {p q : Int} : addIF S (.int p) (.int q) = some (.int (p + q)) := rfl
theorem f_in0 {k : Int} : inF S (.int k) (.dk [] []) = some (.bl false) := rfl
theorem f_mulL {xs : List Vl} {k : Int} (h : -(2 ^ 63) ≤ k ∧ k < 2 ^ 63 ∧ xs.length * k.toNat ≤ 16777216) : mulLF S (.lst xs) (.int k) = some (.lst (List.replicate k.toNat xs).flatten) := if_pos h
theorem nums_ints : ∀ l : List Int, nums (l.map Vl.int) = some l
  | [] => rfl
  | i :: l => by
    show (nums (l.map Vl.int)).map (i :: ·) = _
    rw [nums_ints l]
    rfl
theorem f_sum {l : List Int} : sumF S [.lst (l.map Vl.int)] = some (.int l.sum) := by
  show (nums (l.map Vl.int)).map (fun bs => Vl.int bs.sum) = _
  rw [nums_ints]
  rfl
theorem w_rng2 (h : Ret (consA a (consA b nilA) env S) fun xs S1 => ∃ p q : Int, xs = [.int p, .int q] ∧ ((-(2 ^ 62) ≤ p ∧ p < 2 ^ 62 ∧ -(2 ^ 62) ≤ q ∧ q < 2 ^ 62) ∧ q - p ≤ 16777216) ∧ QA (rgI p (q - p).toNat) S1) : Ret (rngI (consA a (consA b nilA)) env S) QA := h.bind fun xs S1 h => by
  obtain ⟨p, q, rfl, hn, z⟩ := h
  dsimp only
  rw [if_pos hn]
  exact ⟨_, _, rfl, z⟩
theorem rgI_at2 {p : Int} {n i : Nat} {x : Vl} (h : (rgI p n)[i]? = some x) : i < n ∧ x = .int (p + i) := by
  have hl := (List.getElem?_eq_some_iff.mp h).1
  rw [rgI_length] at hl
  rw [rgI_get hl] at h
  cases h
  exact ⟨hl, rfl⟩
theorem f_notInL {k : Str} {l : List Str} : notInF S (.str k) (.lst (l.map .str)) = some (.bl (!decide (k ∈ l))) := by
  show (if (true && (l.map Vl.str).all Vl.flat) = true then some (inV (.str k) ((l.map Vl.str).map fV)) else none).map (fun b => Vl.bl (!b)) = _
  rw [flat_strs, if_pos (by rfl), inV_strs]
  rfl
/-- a filter that only reckons -/
theorem comp_flt {k : TF} {te : EM} {T : Type} (enc g : T → Vl) (p : T → Bool) : ∀ (l : List T), (∀ t ∈ l, ∃ env1, k (enc t) env = some env1 ∧ Ret (tt env1 S) (fun q S1 => q = p t ∧ S1 = S) ∧ (p t = true → Ret (te env1 S) fun y S1 => y = g t ∧ S1 = S)) → QA ((l.filter p).map g) S → Ret (compL k tt te env (l.map enc) S) QA := fun l h q => by
  have e : compL k tt te env (l.map enc) S = .ok ((l.filter p).map g) S := by
    clear q
    induction l with
    | nil => rfl
    | cons t l ih =>
      obtain ⟨env1, e1, ⟨q, S1, e2, rfl, rfl⟩, h2⟩ := h t (List.mem_cons_self ..)
      have t2 := ih fun u hu => h u (List.mem_cons_of_mem _ hu)
      rw [List.map_cons]
      unfold compL
      rw [e1]
      dsimp only
      rw [e2]
      cases hp : p t with
      | false =>
        rw [List.filter_cons_of_neg (by rw [hp]; decide)]
        exact t2
      | true =>
        rw [List.filter_cons_of_pos hp]
        obtain ⟨y, S2, e3, rfl, rfl⟩ := h2 hp
        show (te env1 S2).nox.bind (fun y S3 => (compL k tt te env (l.map enc) S3).bind fun ys S4 => Res.ok (y :: ys) S4) = _
        rw [e3]
        show (compL k tt te env (l.map enc) S2).bind (fun ys S4 => Res.ok (g t :: ys) S4) = _
        rw [t2]
        rfl
  rw [e]
  exact ⟨_, _, rfl, q⟩
/-! ### exceptions -/
def Exc {α : Type} (r : Res α) (c : Nat) (ns : List Str) (xs : List Vl) (Q : Sto → Prop) : Prop := ∃ S, r = .exc c ns xs S ∧ Q S
variable {n : Nat} {ns : List Str} {xs : List Vl} {QS : Sto → Prop}
theorem Exc.bind {α β : Type} {r : Res α} {k : α → Sto → Res β} (h : Exc r n ns xs QS) : Exc (r.bind k) n ns xs QS := by
  obtain ⟨S1, rfl, q⟩ := h
  exact ⟨S1, rfl, q⟩
theorem x_bind {α β : Type} {r : Res α} {k : α → Sto → Res β} (h : Ret r fun a S1 => Exc (k a S1) n ns xs QS) : Exc (r.bind k) n ns xs QS := by
  obtain ⟨a, S1, rfl, q⟩ := h
  exact q
theorem x_run {N : Nat} {ys : List Vl} (h : Exc (s1 (startE N ys) S) n ns xs QS) : Exc (runM N s1 ys S) n ns xs QS := Exc.bind h
theorem x_seq1 (h : Exc (s1 env S) n ns xs QS) : Exc (seqS s1 s2 env S) n ns xs QS := Exc.bind h
theorem x_seq (h : Ret (s1 env S) fun fl S1 => ∃ e, fl = .nx e ∧ Exc (s2 e S1) n ns xs QS) : Exc (seqS s1 s2 env S) n ns xs QS := x_bind (h.mono fun fl S1 ⟨e, z, q⟩ => by subst z; exact q)
theorem x_ifT (h : Ret (tA env S) fun k S1 => k = true ∧ Exc (s1 env S1) n ns xs QS) : Exc (ifS tA s1 s2 env S) n ns xs QS := x_bind (h.mono fun k S1 ⟨z, q⟩ => by subst z; exact q)
theorem x_rai (h : Ret (A env S) fun ys S1 => ys.reverse = xs ∧ QS S1) : Exc (raiS n ns A env S) n ns xs QS := x_bind (h.mono fun ys S1 ⟨z, q⟩ => by subst z; exact ⟨S1, rfl, q⟩)
theorem w_qtry {tbl : Nat → Option Bool} {r : List Vl → Sto → Res Vl} {hm : HM} (h : Ret (A env S) fun xs S1 => Ret (r xs S1) fun x S2 => Ret (s2 (env.set j (.v x)) S2) QF) : Ret (seqS (tryS tbl i j r A hm) s2 env S) QF := w_seq (by
  obtain ⟨xs, S1, e, x, S2, e2, q⟩ := h
  unfold tryS
  rw [e]
  dsimp only
  rw [e2]
  exact ⟨_, _, rfl, q⟩)
theorem w_qtryX {tbl : Nat → Option Bool} {r : List Vl → Sto → Res Vl} {hm : HM} (ht : tbl n = some true) (hi : i < env.length) (h : Ret (A env S) fun zs S1 => Exc (r zs S1) n ns xs fun S2 => Ret (post i (hm ns xs (env.set i .un) S2)) fun fl S3 => match fl with | .nx e => Ret (s2 e S3) QF | f => QF f S3) : Ret (seqS (tryS tbl i j r A hm) s2 env S) QF := w_seq (by
  obtain ⟨zs, S1, e, S2, e2, q⟩ := h
  unfold tryS
  rw [e]
  dsimp only
  rw [e2]
  dsimp only
  rw [ht]
  dsimp only
  rw [if_pos hi]
  exact q)
end
end Dm

set_option Elab.async false
set_option linter.all false
set_option maxRecDepth 100000
set_option autoImplicit false
set_option maxHeartbeats 1000000
/-! DmS: plain tools for exceptions, further ones (as in P02c, P02g). -/
namespace Dm
open PySem PySem.Spec L2
/-! ### exceptions, further rules -/
section
variable {env : List Sv} {S : Sto} {a b c m o : EM} {tA tB tt : TM} {A : AM} {im : IM} {i j : Nat} {s1 s2 s3 : SM} {QF : Fl → Sto → Prop} {n : Nat} {ns : List Str} {xs : List Vl} {QS : Sto → Prop}
theorem x_init {N k : Nat} {ys : List Vl} {p : Addr} (h : Exc (s1 (startI N k p ys) S) n ns xs QS) : Exc (runI N k s1 p ys S) n ns xs QS := Exc.bind h
theorem x_expr {r : List Vl → Sto → Res Vl} (h : Ret (A env S) fun ys S1 => Exc (r ys S1) n ns xs QS) : Exc (exprS (callM r A) env S) n ns xs QS := Exc.bind (x_bind h)
theorem x_for {k : TF} (h : Ret (im env S) fun ys S1 => Exc (loopS k s1 ys env S1) n ns xs QS) : Exc (forS im k s1 env S) n ns xs QS := x_bind h
theorem x_ifF (h : Ret (tA env S) fun k S1 => k = false ∧ Exc (s2 env S1) n ns xs QS) : Exc (ifS tA s1 s2 env S) n ns xs QS := x_bind (h.mono fun k S1 ⟨z, q⟩ => by subst z; exact q)
/-- a test ahead that says no -/
theorem x_past (h : Ret (tA env S) fun k S1 => k = false ∧ Exc (s3 env S1) n ns xs QS) : Exc (seqS (ifS tA s1 nilS) s3 env S) n ns xs QS := x_bind (by
  obtain ⟨k, S1, e, rfl, q⟩ := h
  refine ⟨.nx env, S1, ?_, q⟩
  unfold ifS
  rw [e]
  rfl)
theorem x_loop {f : TF} {b : SM} (I : Nat → List Sv → Sto → Prop) : ∀ (ys : List Vl) (k : Nat) (env : List Sv) (S : Sto) (at_ : Nat), I k env S →
    (∀ i x env S, i < at_ → ys[i]? = some x → I (k + i) env S → ∃ env1, f x env = some env1 ∧ Ret (b env1 S) fun fl S1 => ∃ e2, (fl = .nx e2 ∨ fl = .ct e2) ∧ I (k + i + 1) e2 S1) →
    (∃ x, ys[at_]? = some x ∧ ∀ env S, I (k + at_) env S → ∃ env1, f x env = some env1 ∧ Exc (b env1 S) n ns xs QS) → Exc (loopS f b ys env S) n ns xs QS
  | [], k, env, S, at_, _, _, ⟨x, hx, _⟩ => by simp at hx
  | y :: ys, k, env, S, 0, h, _, ⟨x, hx, e⟩ => by
    simp at hx
    subst hx
    obtain ⟨env1, e1, q⟩ := e env S h
    unfold loopS
    rw [e1]
    exact Exc.bind q
  | y :: ys, k, env, S, at_ + 1, h, st, ⟨x, hx, e⟩ => by
    obtain ⟨env1, e1, r⟩ := st 0 y env S (Nat.succ_pos _) rfl h
    unfold loopS
    rw [e1]
    refine x_bind (r.mono fun fl S1 ⟨e2, hf, hi⟩ => ?_)
    have rest := x_loop I ys (k + 1) e2 S1 at_ hi (fun i z env S hlt hz hI => by
      have := st (i + 1) z env S (Nat.succ_lt_succ hlt) (by simpa using hz) (by rw [show k + (i + 1) = k + 1 + i from by omega]; exact hI)
      rw [show k + (i + 1) + 1 = k + 1 + i + 1 from by omega] at this
      exact this) ⟨x, by simpa using hx, fun env S hI => e env S (by rw [show k + (at_ + 1) = k + 1 + at_ from by omega]; exact hI)⟩
    rcases hf with rfl | rfl <;> exact rest
theorem w_qtryM {tbl : Nat → Option Bool} {r : Addr → List Vl → Sto → Res Vl} {hm : HM} (h : Ret (A env S) fun xs S1 => Ret (r 0 xs S1) fun x S2 => Ret (s2 env S2) QF) : Ret (seqS (tryM tbl i r A hm) s2 env S) QF := w_seq (by
  obtain ⟨xs, S1, e, x, S2, e2, q⟩ := h
  unfold tryM
  rw [e]
  dsimp only
  rw [e2]
  exact ⟨_, _, rfl, q⟩)
theorem w_qtryMX {tbl : Nat → Option Bool} {r : Addr → List Vl → Sto → Res Vl} {hm : HM} (ht : tbl n = some true) (hi : i < env.length) (h : Ret (A env S) fun zs S1 => Exc (r 0 zs S1) n ns xs fun S2 => Ret (post i (hm ns xs (env.set i .un) S2)) fun fl S3 => match fl with | .nx e => Ret (s2 e S3) QF | f => QF f S3) : Ret (seqS (tryM tbl i r A hm) s2 env S) QF := w_seq (by
  obtain ⟨zs, S1, e, S2, e2, q⟩ := h
  unfold tryM
  rw [e]
  dsimp only
  rw [e2]
  dsimp only
  rw [ht]
  dsimp only
  rw [if_pos hi]
  exact q)
theorem w_parVO (h : Ret (a env S) fun x S1 => Ret (b env S1) fun y S2 => QF (.nx ((env.set i (.v x)).set j (.ow y))) S2) : Ret (parVO i j a b env S) QF := h.bind fun x S1 h => h.bind fun y S2 h => ⟨_, _, rfl, h⟩
/-- a comprehension of tests, known -/
theorem comp_bools {f : TF} {te : EM} {T : Type} (enc : T → Vl) (p : T → Bool) {QA : List Vl → Sto → Prop} (l : List T) (h : ∀ t ∈ l, ∃ env1, f (enc t) env = some env1 ∧ Ret (te env1 S) fun y S1 => y = .bl (p t) ∧ S1 = S) (q : QA ((l.map p).map .bl) S) : Ret (compL f yesT te env (l.map enc) S) QA := by
  refine comp_pure enc (fun t => .bl (p t)) l h ?_
  rw [List.map_map] at q
  exact q
theorem bools_map : ∀ l : List Bool, bools (l.map .bl) = some l
  | [] => rfl
  | b :: l => by
    rw [List.map_cons, bools, bools_map l]
    rfl
theorem f_allB {l : List Bool} : allF S [.lst (l.map .bl)] = some (.bl (l.all id)) := by
  show (bools (l.map .bl)).map (fun bs => Vl.bl (bs.all id)) = _
  rw [bools_map]
  rfl
end
end Dm
namespace Dm
open PySem PySem.Spec L2
theorem comp_bv {f : TF} {te : EM} {env : List Sv} {S : Sto} (p : Vl → Bool) {QA : List Vl → Sto → Prop} (l : List Vl) (h : ∀ t ∈ l, ∃ env1, f t env = some env1 ∧ Ret (te env1 S) fun y S1 => y = .bl (p t) ∧ S1 = S) (q : QA ((l.map p).map .bl) S) : Ret (compL f yesT te env l S) QA := by
  have := comp_bools (f := f) (te := te) (env := env) (S := S) (fun x : Vl => x) p (QA := QA) l h q
  rwa [List.map_id'] at this
theorem comp_two {f : TF} {te : EM} {env : List Sv} {S : Sto} {a b ya yb : Vl} {QA : List Vl → Sto → Prop} (h1 : ∃ env1, f a env = some env1 ∧ Ret (te env1 S) fun y S1 => y = ya ∧ S1 = S) (h2 : ∃ env1, f b env = some env1 ∧ Ret (te env1 S) fun y S1 => y = yb ∧ S1 = S) (q : QA [ya, yb] S) : Ret (compL f yesT te env [a, b] S) QA :=
  comp_pure (fun t : Bool => if t then a else b) (fun t => if t then ya else yb) [true, false] (fun t _ => by cases t; exact h2; exact h1) q
theorem w_loop1 {f : TF} {b : SM} {x : Vl} {xs : List Vl} {env env1 : List Sv} {S : Sto} {v : Vl} {QF : Fl → Sto → Prop} (e : f x env = some env1) (h : Ret (b env1 S) fun fl S1 => fl = .rt v ∧ QF (.rt v) S1) : Ret (loopS f b (x :: xs) env S) QF := by
  unfold loopS
  rw [e]
  refine h.bind fun fl S1 ⟨hf, hq⟩ => ?_
  subst hf
  exact ⟨_, _, rfl, hq⟩
end Dm

set_option Elab.async false
set_option linter.all false
set_option maxRecDepth 100000
set_option autoImplicit false
set_option maxHeartbeats 1000000
/-! DmU: what a call hands out in new shared objects, taken by value; own objects shared; {k: v}; d[k] = v of an own dict. -/
namespace Dm
open PySem PySem.Spec L2
mutual
/-- all references lie below n -/
def rfB (n : Nat) : Vl → Bool
  | .non => true
  | .bl _ => true
  | .int _ => true
  | .str _ => true
  | .scr _ => true
  | .ftp xs => rfBs n xs
  | .tab _ _ => true
  | .exn _ _ xs => rfBs n xs
  | .fdk _ xs => rfBs n xs
  | .fdt _ xs => rfBs n xs
  | .ref k => decide (k < n)
  | .tup xs => rfBs n xs
  | .lst xs => rfBs n xs
  | .dk _ xs => rfBs n xs
  | .dt _ xs => rfBs n xs
  | .ins _ _ xs => rfBs n xs
def rfBs (n : Nat) : List Vl → Bool
  | [] => true
  | x :: xs => rfB n x && rfBs n xs
end
section
variable {K : PySem.W.Frag} {cl : Cl} {B B' : Addr → Prop} {μ μ' : List Addr} {H : Hp} {n : Nat}
theorem TabC.cut (hB : ∀ a, B' a → B a) {q : Str} {ps : Array Value} (h : TabC B H q ps) : TabC B' H q ps := ⟨h.1, fun pos cv hc => by
  obtain ⟨c, e1, e2, e3⟩ := h.2 pos cv hc
  exact ⟨c, e1, e2, fun z => e3 (hB c z)⟩⟩
mutual
theorem Rep.cut (hB : ∀ a, B' a → B a) (hm : ∀ (k : Nat) (a : Addr), k < n → μ[k]? = some a → μ'[k]? = some a) : ∀ {x : Vl} {v : V}, rfB n x = true → Rep K cl B μ H x v → Rep K cl B' μ' H x v
  | _, _, _, .non => .non
  | _, _, _, .bl b => .bl b
  | _, _, _, .int i => .int i
  | _, _, _, .str x => .str x
  | _, _, h, .tup e n r => .tup e (fun z => n (hB _ z)) (Reps.cut hB hm (by simpa [rfB] using h) r)
  | _, _, h, .lst e n r => .lst e (fun z => n (hB _ z)) (Reps.cut hB hm (by simpa [rfB] using h) r)
  | _, _, _, .scr h => .scr (h.elim (fun h => .inl ⟨h.1, fun z => h.2 (hB _ z)⟩) .inr)
  | _, _, h, .ftp e d n r => .ftp e d (fun z => n (hB _ z)) (Reps.cut hB hm (by simpa [rfB] using h) r)
  | _, _, h, .dk e n q r => .dk e (fun z => n (hB _ z)) q (Reps.cut hB hm (by simpa [rfB] using h) r)
  | _, _, h, .dt e n q r => .dt e (fun z => n (hB _ z)) q (Reps.cut hB hm (by simpa [rfB] using h) r)
  | _, _, h, .ins e n q r => .ins e (fun z => n (hB _ z)) q (Reps.cut hB hm (by simpa [rfB] using h) r)
  | _, _, h, .ref e => .ref (hm _ _ (by simpa [rfB] using h) e)
  | _, _, _, .tab g e n t => .tab g e (fun z => n (hB _ z)) (t.cut hB)
  | _, _, h, .exn e n e2 n2 q r => .exn e (fun z => n (hB _ z)) e2 (fun z => n2 (hB _ z)) q (Reps.cut hB hm (by simpa [rfB] using h) r)
  | _, _, h, .fdk e n q r => .fdk e (fun z => n (hB _ z)) q (Reps.cut hB hm (by simpa [rfB] using h) r)
  | _, _, h, .fdt e n q r => .fdt e (fun z => n (hB _ z)) q (Reps.cut hB hm (by simpa [rfB] using h) r)
  | _, _, _, .exz e n => .exz e (fun z => n (hB _ z))
theorem Reps.cut (hB : ∀ a, B' a → B a) (hm : ∀ (k : Nat) (a : Addr), k < n → μ[k]? = some a → μ'[k]? = some a) : ∀ {xs : List Vl} {vs : List V}, rfBs n xs = true → Reps K cl B μ H xs vs → Reps K cl B' μ' H xs vs
  | _, _, _, .nil => .nil
  | _, _, h, .cons r t => by
    simp only [rfBs, Bool.and_eq_true] at h
    exact .cons (Rep.cut hB hm h.1 r) (Reps.cut hB hm h.2 t)
end
theorem At.cut (hB : ∀ a, B' a → B a) (hm : ∀ (k : Nat) (a : Addr), k < n → μ[k]? = some a → μ'[k]? = some a) {a : Addr} {x : Vl} (h : rfB n x = true) (r : At K cl B μ H a x) : At K cl B' μ' H a x := by
  cases r with
  | lst e r => exact .lst e (r.cut hB hm (by simpa [rfB] using h))
  | dk e q r => exact .dk e q (r.cut hB hm (by simpa [rfB] using h))
  | dt e q r => exact .dt e q (r.cut hB hm (by simpa [rfB] using h))
  | ins e q r => exact .ins e q (r.cut hB hm (by simpa [rfB] using h))
  | tab g e t => exact .tab g e (t.cut hB)
end
def fz1 (n : Nat) (T : Sto) (x : Vl) : Option Vl := match x with
  | .ref k => if k < n then some (.ref k) else T[k - n]?
  | x => if rfB n x = true then some x else none
def fzs (n : Nat) (T : Sto) : List Vl → Option (List Vl)
  | [] => some []
  | x :: xs => (fz1 n T x).bind fun y => (fzs n T xs).bind fun ys => some (y :: ys)
def fzV (n : Nat) (T : Sto) (x : Vl) : Option Vl := match x with
  | .tup xs => (fzs n T xs).map .tup
  | x => fz1 n T x
/-- new shared objects that are handed out become plain values -/
def popM (m : EM) : EM := fun env S => match m env S with
  | .ok x S1 => if S1.all (rfB S.length) = true then (match fzV S.length (S1.drop S.length) x with
    | some y => .ok y (S1.take S.length)
    | none => .bad) else .bad
  | .exc c ns xs S1 => .exc c ns xs S1
  | .bad => .bad
section
variable {K : PySem.W.Frag} {cl : Cl} {V0 : Addr → Prop} {μ μ1 : List Addr} {S1 : Sto} {H1 : Hp}
theorem fz1_rep (s1 : Sim K cl V0 μ1 S1 H1) (hp : ∀ (k : Nat) (a : Addr), μ[k]? = some a → μ1[k]? = some a) (ha : S1.all (rfB μ.length) = true) {x y : Vl} {v : V} (h : fz1 μ.length (S1.drop μ.length) x = some y) (r : Rep K cl (Bn V0 μ1) μ1 H1 x v) :
    Rep K cl (Bn V0 μ) μ H1 y v := by
  have hB : ∀ a, Bn V0 μ a → Bn V0 μ1 a := fun a z => z.elim (fun z => by
    obtain ⟨k, hk⟩ := List.getElem?_of_mem z
    exact .inl (List.mem_of_getElem? (hp k a hk))) .inr
  have hm : ∀ (k : Nat) (a : Addr), k < μ.length → μ1[k]? = some a → μ[k]? = some a := fun k a hk e => by
    have := hp k _ (List.getElem?_eq_getElem hk)
    rw [e] at this
    cases this
    exact List.getElem?_eq_getElem hk
  have plain : rfB μ.length x = true → some x = some y → Rep K cl (Bn V0 μ) μ H1 y v := fun h1 h2 => by
    cases h2
    exact r.cut hB hm h1
  cases x with
  | ref k =>
    unfold fz1 at h
    dsimp only at h
    split at h
    · rename_i hk
      cases h
      exact r.cut hB hm (by simpa [rfB] using hk)
    · rename_i hk
      rw [List.getElem?_drop, show μ.length + (k - μ.length) = k from by omega] at h
      obtain ⟨a, e1, e2⟩ := s1.obs k y h
      cases r with
      | ref e =>
        rw [e] at e1
        cases e1
        refine (e2.cut hB hm (List.all_eq_true.mp ha y (List.mem_of_getElem? h))).rep fun z => ?_
        rcases z with z | z
        · obtain ⟨j, hj⟩ := List.getElem?_of_mem z
          have hjl := (List.getElem?_eq_some_iff.mp hj).1
          have := (List.getElem?_inj (List.getElem?_eq_some_iff.mp e).1 s1.nd).mp (e.trans (hp j a hj).symm)
          omega
        · exact s1.dis a (List.mem_of_getElem? e) z
  | _ =>
    unfold fz1 at h
    dsimp only at h
    split at h
    · rename_i h1
      exact plain h1 h
    · cases h
theorem fzs_rep (s1 : Sim K cl V0 μ1 S1 H1) (hp : ∀ (k : Nat) (a : Addr), μ[k]? = some a → μ1[k]? = some a) (ha : S1.all (rfB μ.length) = true) : ∀ {xs ys : List Vl} {vs : List V}, fzs μ.length (S1.drop μ.length) xs = some ys → Reps K cl (Bn V0 μ1) μ1 H1 xs vs →
    Reps K cl (Bn V0 μ) μ H1 ys vs
  | [], ys, vs, h, r => by
    cases h
    cases r
    exact .nil
  | x :: xs, ys, vs, h, r => by
    unfold fzs at h
    cases e1 : fz1 μ.length (S1.drop μ.length) x with
    | none => rw [e1] at h; cases h
    | some y =>
      cases e2 : fzs μ.length (S1.drop μ.length) xs with
      | none => rw [e1, e2] at h; cases h
      | some zs =>
        rw [e1, e2] at h
        cases h
        cases r with
        | cons r t => exact .cons (fz1_rep s1 hp ha e1 r) (fzs_rep s1 hp ha e2 t)
theorem fzV_rep (s1 : Sim K cl V0 μ1 S1 H1) (hp : ∀ (k : Nat) (a : Addr), μ[k]? = some a → μ1[k]? = some a) (ha : S1.all (rfB μ.length) = true) {x y : Vl} {v : V} (h : fzV μ.length (S1.drop μ.length) x = some y) (r : Rep K cl (Bn V0 μ1) μ1 H1 x v) :
    Rep K cl (Bn V0 μ) μ H1 y v := by
  cases x with
  | tup xs =>
    unfold fzV at h
    dsimp only at h
    cases e : fzs μ.length (S1.drop μ.length) xs with
    | none => rw [e] at h; cases h
    | some ys =>
      rw [e] at h
      cases h
      cases r with
      | tup e1 n1 r1 =>
        refine .tup e1 (fun z => n1 (z.elim (fun z => ?_) .inr)) (fzs_rep s1 hp ha e r1)
        obtain ⟨k, hk⟩ := List.getElem?_of_mem z
        exact .inl (List.mem_of_getElem? (hp k _ hk))
  | _ =>
    unfold fzV at h
    exact fz1_rep s1 hp ha h r
end
section
variable {X : Cx} {cl : Cl} {E : XK} {e : Expr} {m : EM} {i : Nat} {sts : List Stmt} {b : SM}
theorem de_pop (h : PE X e (tD X.K cl E m)) : PE X e (tD X.K cl E (popM m)) := h.imp fun σ H Q ⟨W, ω, μ, S, env, rl, q⟩ => by
  refine ⟨W, ω, μ, S, env, rl, ?_⟩
  unfold popM at q
  cases hm : m env S with
  | bad => rw [hm] at q; exact q.elim
  | exc c ns xs S1 => rw [hm] at q; exact q
  | ok x S1 =>
    rw [hm] at q
    dsimp only at q
    split at q
    · rename_i ha
      rw [← rl.sim.len] at q ha
      cases hf : fzV μ.length (S1.drop μ.length) x with
      | none => rw [hf] at q; exact q.elim
      | some y =>
        rw [hf] at q
        intro μ1 H1 s1 e1 v rv
        have hl : μ.length ≤ μ1.length := by
          cases hk : μ.length with
          | zero => exact Nat.zero_le _
          | succ k =>
            have := e1.pre k _ (List.getElem?_eq_getElem (by omega : k < μ.length))
            have := (List.getElem?_eq_some_iff.mp this).1
            omega
        have hB : ∀ a, Bn (Wo W ω) μ a → Bn (Wo W ω) μ1 a := fun a z => z.elim (fun z => by
          obtain ⟨k, hk⟩ := List.getElem?_of_mem z
          exact .inl (List.mem_of_getElem? (e1.pre k a hk))) .inr
        have hm' : ∀ (k : Nat) (a : Addr), k < μ.length → μ1[k]? = some a → μ[k]? = some a := fun k a hk e => by
          have := e1.pre k _ (List.getElem?_eq_getElem hk)
          rw [e] at this
          cases this
          exact List.getElem?_eq_getElem hk
        refine q μ H1 ⟨?_, rl.sim.nd, rl.sim.dis, s1.trn, fun k y hy => ?_⟩ ⟨e1.keep, e1.dom, fun _ _ z => z, fun _ z => .inl z⟩ v (fzV_rep s1 e1.pre ha hf rv)
        · rw [List.length_take, ← s1.len]
          omega
        · have hk : k < μ.length := by
            have := (List.getElem?_eq_some_iff.mp hy).1
            rw [List.length_take] at this
            omega
          rw [List.getElem?_take_of_lt hk] at hy
          obtain ⟨a, g1, g2⟩ := s1.obs k y hy
          exact ⟨a, hm' k a hk g1, g2.cut hB hm' (List.all_eq_true.mp ha y (List.mem_of_getElem? hy))⟩
    · exact q.elim
/-- a new object, shared at once -/
def newR (m : EM) : EM := fun env S => (m env S).bind fun x S1 => .ok (.ref S1.length) (S1 ++ [x])
theorem de_newR (h : PE X e (tN X.K cl E m)) : PE X e (tD X.K cl E (newR m)) := h.imp fun σ H Q ⟨W, ω, μ, S, env, rl, q⟩ => by
  refine ⟨W, ω, μ, S, env, rl, ?_⟩
  unfold newR at q
  cases hm : m env S with
  | bad => rw [hm] at q; exact q.elim
  | exc c ns xs S1 => rw [hm] at q; exact q
  | ok x S1 =>
    rw [hm] at q
    intro μ1 H1 s1 e1 a ha sb at_
    have na : ¬ Wo W ω a := fun z => rl.sim.trk a z ha
    refine q (μ1 ++ [a]) H1 (sb.pushNew na at_) ⟨e1.keep, e1.dom, fun n b z => ?_, fun b z => ?_⟩ (.ref a) (.ref ?_)
    · rw [List.getElem?_append_left (List.getElem?_eq_some_iff.mp (e1.pre n b z)).1]; exact e1.pre n b z
    · rcases List.mem_append.mp z with z | z
      · exact e1.new b z
      · have : b = a := by simpa using z
        subst this
        exact .inr ha
    · rw [← sb.len, List.getElem?_append_right (Nat.le_refl _), Nat.sub_self] <;> rfl
/-- an own object is shared from here on (no statement) -/
def shrS (i : Nat) : SM := fun env S => match env[i]? with
  | some (.ow x) => .ok (.nx (env.set i (.v (.ref S.length)))) (S ++ [x])
  | _ => .bad
theorem Rl.share {K : PySem.W.Frag} {W : Addr → Prop} {ω : List (Option Addr)} {μ : List Addr} {S : Sto} {env : List Sv} {σ : St} {H : Hp} {x : Vl} (rl : Rl K cl W ω μ S env σ H) (he : env[i]? = some (.ow x)) :
    ∃ a, some a ∈ ω ∧ Rl K cl W (ω.set i none) (μ ++ [a]) (S ++ [x]) (env.set i (.v (.ref S.length))) σ H := by
  obtain ⟨o, s, h1, h2, a, h3, h4, h5⟩ := rl.slot he
  subst h4
  subst h3
  have ham := List.mem_of_getElem? h1
  refine ⟨a, ham, ?_⟩
  have sub : ∀ b, Wa (Wo W (ω.set i none)) a b → Wo W ω b := fun b z => z.elim (fun z => z.elim .inl fun z => .inr (mem_set_none z)) fun z => .inr (by rw [z]; exact ham)
  have na : ¬ Wo W (ω.set i none) a := fun z => by
    rcases z with z | z
    · exact rl.ow a ham z
    · obtain ⟨j, hj⟩ := List.getElem?_of_mem z
      by_cases hji : j = i
      · subst hji
        rw [List.getElem?_set_self (by have := (List.getElem?_eq_some_iff.mp hj).1; simpa using this)] at hj
        cases hj
      · rw [List.getElem?_set_ne (Ne.symm hji)] at hj
        exact hji (rl.od j i a hj h1)
  have sm := (rl.sim.weak sub).pushNew na (h5.mono (Kp.weak sub) fun _ q => q)
  have kp : Kp (Bn (Wo W ω) μ) (Bn (Wo W (ω.set i none)) (μ ++ [a])) μ (μ ++ [a]) H H := ⟨fun b o q n => ⟨q, fun z => by
      rcases z with z | z
      · rcases List.mem_append.mp z with z | z
        · exact n (.inl z)
        · have : b = a := by simpa using z
          subst this
          exact n (.inr (.inr ham))
      · exact n (.inr (z.elim .inl fun z => .inr (mem_set_none z)))⟩, fun n b q => by rw [List.getElem?_append_left (List.getElem?_eq_some_iff.mp q).1]; exact q⟩
  refine ⟨sm, by simp [rl.l1], by simp [rl.l2], fun j e o s g1 g2 g3 => ?_, fun j k b g1 g2 => ?_, fun b z => rl.ow b (mem_set_none z)⟩
  · by_cases hj : j = i
    · subst hj
      rw [List.getElem?_set_self (by have := (List.getElem?_eq_some_iff.mp g1).1; simpa using this)] at g1
      rw [List.getElem?_set_self (by have := (List.getElem?_eq_some_iff.mp g2).1; simpa using this)] at g2
      cases g1; cases g2
      rw [h2] at g3; cases g3
      refine ⟨rfl, _, rfl, .ref ?_⟩
      rw [← rl.sim.len, List.getElem?_append_right (Nat.le_refl _), Nat.sub_self] <;> rfl
    · rw [List.getElem?_set_ne (Ne.symm hj)] at g1 g2
      exact (rl.at_ j e o s g1 g2 g3).mono kp fun _ _ _ q => q
  · have f : ∀ l : Nat, (ω.set i none)[l]? = some (some b) → ω[l]? = some (some b) := fun l q => by
      by_cases hl : l = i
      · subst hl
        rw [List.getElem?_set_self (by have := (List.getElem?_eq_some_iff.mp q).1; simpa using this)] at q
        cases q
      · rw [List.getElem?_set_ne (Ne.symm hl)] at q; exact q
    exact rl.od j k b (f j g1) (f k g2)
theorem ds_shr (h : PSs X sts (tS X.K cl E b)) : PSs X sts (tS X.K cl E (seqS (shrS i) b)) := h.imp fun D σ H ⟨W, ω, μ, S, env, rl, q⟩ => by
  unfold seqS shrS at q
  cases he : env[i]? with
  | none => rw [he] at q; exact q.elim
  | some z =>
    rw [he] at q
    cases z with
    | un => exact q.elim
    | v x => exact q.elim
    | sf a x => exact q.elim
    | ow x =>
      obtain ⟨a, ha, r⟩ := rl.share he
      refine ⟨W, _, _, _, _, r, SatF.step (r := b _ (S ++ [x])) q ⟨fun _ _ z _ _ => z, fun _ z => z, fun n c z => ?_, fun c z => ?_⟩⟩
      · rw [List.getElem?_append_left (List.getElem?_eq_some_iff.mp z).1]; exact z
      · rcases z with z | z
        · rcases List.mem_append.mp z with z | z
          · exact .inl z
          · have : c = a := by simpa using z
            subst this
            exact .inr (.inl ha)
        · exact .inr (.inl (mem_set_none z))
end
/-! ### {k: v} -/
def dk1 (mk mv : EM) : EM := fun env S => (mk env S).bind fun k S1 => (mv env S1).bind fun v S2 => match keyV k with
  | some q => .ok (.dk [q] [v]) S2
  | none => .bad
theorem keyV_kV {K : PySem.W.Frag} {cl : Cl} {B : Addr → Prop} {μ : List Addr} {H : Hp} {x : Vl} {v : V} {q : Key} (h : keyV x = some q) (r : Rep K cl B μ H x v) : v = kV q := by
  cases x with
  | int i => cases h; cases r; rfl
  | str z => cases h; cases r; rfl
  | _ => cases h
section
variable {X : Cx} {cl : Cl} {E : XK} {ek ev : Expr} {mk mv : EM} {i : Nat} {st : Stmt} {pos : Pos}
theorem dn_dk1 (hk : PE X ek (tD X.K cl E mk)) (hv : PE X ev (tD X.K cl E mv)) : PE X (.Dict [some ek] [ev] pos) (tN X.K cl E (dk1 mk mv)) :=
  (pe_disp (pps_cons hk hv pps_nil) rfl rfl (by simp) (by simp)).imp fun σ H Q ⟨W, ω, μ, S, env, rl, q⟩ p hp => by
  have sub : ∀ b, Wo W ω b → Wo (Wa W p) ω b := fun b z => z.elim (fun z => .inl (.inl z)) .inr
  have sub2 : ∀ b, Wo (Wa W p) ω b → Wa (Wo W ω) p b := fun b z => z.elim (fun z => z.elim (fun z => .inl (.inl z)) .inr) fun z => .inl (.inr z)
  have sub3 : ∀ b, Wa (Wo W ω) p b → Wo (Wa W p) ω b := fun b z => z.elim (fun z => z.elim (fun z => .inl (.inl z)) .inr) fun z => .inl (.inr z)
  have np : p ∉ μ := fun z => rl.sim.tracked (.inl z) hp
  have rl1 : Rl X.K cl (Wa W p) ω μ S env σ (upd H p (.dK [])) := rl.banNew (Ext.fresh hp) hp (rl.sim.freshBan hp np)
  have e0 : Ext μ H μ (upd H p (.dK [])) := Ext.fresh hp
  refine ⟨Wa W p, ω, μ, S, env, rl1, ?_⟩
  unfold dk1 at q
  cases h1 : mk env S with
  | bad => rw [h1] at q; exact q.elim
  | exc c ns xs S1 =>
    rw [h1] at q
    intro μ' H' d s1 e1 ⟨fs, x1, x2, x3⟩
    exact q μ' H' d (s1.weak sub) (e0.trans e1) ⟨fs, x1, x2, x3.mono (Kp.weak sub)⟩
  | ok k S1 =>
    rw [h1] at q
    dsimp only [Res.bind] at q
    intro μ1 H1 s1 e1 kv rk
    refine ⟨Wa W p, ω, μ1, S1, env, rl1.ext e1 s1, ?_⟩
    cases h2 : mv env S1 with
    | bad => rw [h2] at q; exact q.elim
    | exc c ns xs S2 =>
      rw [h2] at q
      intro μ' H' d s2 e2 ⟨fs, x1, x2, x3⟩
      exact q μ' H' d (s2.weak sub) ((e0.trans e1).trans e2) ⟨fs, x1, x2, x3.mono (Kp.weak sub)⟩
    | ok v S2 =>
      rw [h2] at q
      dsimp only [Res.bind] at q
      intro μ2 H2 s2 e2 vv rv
      cases h3 : keyV k with
      | none => rw [h3] at q; exact q.elim
      | some kq =>
        rw [h3] at q
        have hb1 : p ∉ μ1 := fun z => s1.dis p z (.inl (.inr rfl))
        have hb2 : p ∉ μ2 := fun z => s2.dis p z (.inl (.inr rfl))
        have g1 : H1 p = some (.dK []) := e1.keep p _ upd_same np
        have g2 : H2 p = some (.dK []) := e2.keep p _ g1 hb1
        obtain ⟨s3, k3⟩ := s2.updW (D := p) (o := .dK [(kq, vv)]) (.inl (.inr rfl))
        have s4 : Sim X.K cl (Wa (Wo W ω) p) μ2 S2 (upd H2 p (.dK [(kq, vv)])) := s3.weak sub3
        refine ⟨g2, [(kq, vv)], by rw [keyV_kV h3 rk]; rfl, by simp, ?_⟩
        refine q μ2 _ (s3.weak sub) ?_ p hp s4 (.dk upd_same rfl (.cons ((rv.mono k3).mono (Kp.weak sub3)) .nil))
        have e3 := (e0.trans e1).trans e2
        refine ⟨fun b o h n => ?_, fun b h => ?_, e3.pre, e3.new⟩
        · rw [upd_ne (ne_of_none h hp)]
          exact e3.keep b o h n
        · have := e3.dom b h
          unfold L2.upd
          split
          · simp
          · exact this
/-! ### d[k] = v, d an own dict -/
def setD (i : Nat) (mi mv : EM) : SM := fun env S => match env[i]? with
  | some (.ow (.dk ks xs)) => (mv env S).bind fun v S1 => (mi env S1).bind fun k S2 => (match keyV k with
    | some q => if ks.length < 16777216 then .ok (.nx (env.set i (.ow (.dk (putV ks xs q v).1 (putV ks xs q v).2)))) S2 else .bad
    | none => .bad)
  | _ => .bad
theorem own_dk {K : PySem.W.Frag} {W : Addr → Prop} {ω : List (Option Addr)} {μ : List Addr} {S : Sto} {env : List Sv} {σ : St} {H : Hp} {ks : List Key} {xs : List Vl} (rl : Rl K cl W ω μ S env σ H) (he : env[i]? = some (.ow (.dk ks xs))) :
    ∃ a kvs, ω[i]? = some (some a) ∧ σ[i]? = some (some (.ref a)) ∧ H a = some (.dK kvs) ∧ kvs.map (·.1) = ks ∧ Reps K cl (Bn (Wo W ω) μ) μ H xs (kvs.map (·.2)) := by
  obtain ⟨o, s, h1, h2, a, h3, h4, h5⟩ := rl.slot he
  subst h4
  subst h3
  cases h5 with
  | dk g1 g2 g3 => exact ⟨a, _, h1, h2, g1, g2, g3⟩
theorem ds_setD {mi : EM} {tv ti : TE} (h : PS X st (tAsg tv (gSub (tVar i) ti rSetD))) (hv : ∀ σ H Q, tD X.K cl E mv σ H Q → tv σ H Q) (hi : ∀ σ H Q, tD X.K cl E mi σ H Q → ti σ H Q) : PS X st (tS X.K cl E (setD i mi mv)) := h.imp fun D σ H ⟨W, ω, μ, S, env, rl, q⟩ => by
  unfold setD at q
  split at q
  · rename_i ks xs he
    refine hv _ _ _ ⟨W, ω, μ, S, env, rl, q.ofG.mono fun v S1 μ1 H1 _ s1 e1 q1 vv rv => ?_⟩
    have r1 := rl.ext e1 s1
    obtain ⟨a, _, h1, h2, _, _, _⟩ := own_dk r1 he
    refine ⟨.ref a, h2, hi _ _ _ ⟨W, ω, μ1, S1, env, r1, q1.ofG.mono fun k S2 μ2 H2 _ s2 e2 q2 kv rk => ?_⟩⟩
    have r2 := r1.ext e2 s2
    obtain ⟨a', kvs, g1, g2, g3, g4, g5⟩ := own_dk r2 he
    rw [h1] at g1
    cases g1
    cases hk : keyV k with
    | none => rw [hk] at q2; exact q2.elim
    | some kq =>
      rw [hk] at q2
      dsimp only at q2
      split at q2
      · rename_i hl
        subst g4
        obtain ⟨p1, p2⟩ := putV_ok (k := kq) (rv.mono e2.kp) g5
        obtain ⟨r3, e3⟩ := r2.upd he h1 (y := .dk (putV (kvs.map (·.1)) xs kq v).1 (putV (kvs.map (·.1)) xs kq v).2) (o := .dK (putK kvs kq vv)) (.dk p1 p2)
        have hlen : kvs.length < sizeLine := by
          rw [sizeLine_eq, ← List.length_map (f := (·.1))]
          exact hl
        refine ⟨a, _, rfl, ?_, q2 ω μ2 σ _ r3 e3⟩
        rw [keyV_kV hk rk]
        exact DPut.k g3 hlen
      · exact q2.elim
  · exact q.elim
end
end Dm

set_option Elab.async false
set_option linter.all false
set_option maxRecDepth 100000
set_option autoImplicit false
set_option maxHeartbeats 1000000
/-! DmW: a tuple that tuple(list) has made is known to have no dict of its own (.ftp); dict(..) of such a tuple. -/
namespace Dm
open PySem PySem.Spec PyProof.Rows L2
section
variable {X : Cx} {cl : Cl}
def rTupZ (K : PySem.W.Frag) : List V → Hp → VK → Prop := fun xs H Q => (∃ p ys, xs = [.ref p] ∧ SqL K H p ys ∧ ∀ (l : Addr) (o : Obj), H l = none → o.dict = none → Q (.ref l) (upd H l (.frz o (.tup ys)))) ∨ ∃ p ys, xs = [.ref p] ∧ SqT K H p ys ∧ Q (.ref p) H
theorem call_tupZ : CallR X (.type "tuple") (rTupZ X.K) := by
  intro pins s σ H xs us Q I r h
  rcases h with ⟨p, ys, rfl, hq, q⟩ | ⟨p, ys, rfl, hq, q⟩
  · obtain ⟨u, rfl, rx⟩ := vals1 r
    cases rx
    obtain ⟨its, r1, pl, hz⟩ := I.list hq
    have hlen := r1.length
    refine call_tuple_list pl.isList (fun h' kp => ?_) (by simp only [List.size_toArray] <;> omega)
    have J := I.kept (t' := s.toks) kp
    refine ⟨.ref h'.objs.size, _, J.laid (t' := s.toks) (o := .frz _ (.tup ys)) (fun b o e => Heap.get?_push_of_some _ e) (Nat.le_refl _) ⟨Heap.get?_push_size _ rfl, hz, its, r1, IsTup.new _ _⟩, rfl, q _ _ (J.hok.fresh (Nat.le_refl _)) rfl⟩
  · obtain ⟨u, rfl, rx⟩ := vals1 r
    cases rx
    obtain ⟨its, r1, pl, hz⟩ := I.tuple hq
    exact call_tuple_same pl ⟨.ref p, H, I, rfl, q⟩
def ftpF : FA := fun S xs => match xs with
  | [x] => (match look S x with
    | .lst ys => some (.ftp ys)
    | .ftp ys => some (.ftp ys)
    | _ => none)
  | _ => none
theorem rep_newF {K : PySem.W.Frag} {W : Addr → Prop} {ω : List (Option Addr)} {μ : List Addr} {S : Sto} {H : Hp} {l : Addr} {xs : List Vl} {vs : List V} {o : Obj} (s : Sim K cl (Wo W ω) μ S H) (h : H l = none) (hd : o.dict = none) (r : Reps K cl (Bn (Wo W ω) μ) μ H xs vs) : Rep K cl (Bn (Wo W ω) μ) μ (upd H l (.frz o (.tup vs))) (.ftp xs) (.ref l) :=
  .ftp upd_same hd (fun z => s.tracked z h) (r.mono (kp_new h))
theorem s_ftp : OpA X cl (rTupZ X.K) ftpF := fun W ω μ S H xs z vs Q s r h k => by
  unfold ftpF at h
  split at h
  · obtain ⟨v, rfl, rv⟩ := repsL1 r
    have rr := repR_of s rv
    revert h rr
    generalize look S _ = x'
    intro h rr
    cases x' with
    | lst ys =>
      cases h
      obtain ⟨p, ws, rfl, h1, h2⟩ := repR_lst rr
      exact .inl ⟨p, ws, rfl, .of h1, fun l o hl hd => k _ _ (s.fresh hl) (Ext.fresh hl) (rep_newF s hl hd h2)⟩
    | ftp ys =>
      cases h
      rcases rr with rr | ⟨a, e, rr⟩
      · cases rr with
        | ftp h1 h0 h2 h3 => exact .inr ⟨_, _, rfl, .inl (.inr ⟨_, h1⟩), k H _ s Ext.refl (.ftp h1 h0 h2 h3)⟩
      · cases rr
    | _ => cases h
  · cases h
/-! ### dict(tuple) -/
def rDictT (K : PySem.W.Frag) : List V → Hp → VK → Prop := fun xs H Q => ∃ (a : Addr) (o : Obj) (ps : List Addr) (kvs : List (Key × V)), xs = [.ref a] ∧ H a = some (.frz o (.tup (ps.map V.ref))) ∧ o.dict = none ∧ Paired (fun p kv => SqT K H p [kV kv.1, kv.2]) ps kvs ∧
    ∀ p, H p = none → Q (.ref p) (upd H p (.dK (mergeK [] kvs)))
theorem call_dictT (hcalm : X.calm = true) : CallR X (.type "dict") (rDictT X.K) := by
  intro pins s σ H xs us Q I r q
  obtain ⟨a, o, ps, kvs, ex, ho, hd, hp, q⟩ := q
  subst ex
  obtain ⟨u, eu, rx⟩ := vals1 r
  subst eu
  cases rx
  obtain ⟨g0, hz, its, rv, o', g1, hc, n, hdat⟩ := (show ObjOk X.prog X.w H s.heap a (.frz o (.tup (ps.map V.ref))) from I.hok a _ ho)
  rw [g0] at g1
  cases g1
  have ei := refs_at rv
  subst ei
  obtain ⟨prs, rel, hl, hpr⟩ := L2.pairs_of I hp
  rw [List.length_map] at hz
  have key : ∀ (j : Nat) (q : Key × Value), prs[j]? = some q → ∃ (b : Addr) (u : Value), ps[j]? = some b ∧ IsTup s.heap b #[u, q.2] ∧ keyIs q.1 u = true := hpr
  -- the pairs as concrete values
  have mk : ∀ (ps : List Addr) (prs : List (Key × Value)), prs.length = ps.length → (∀ (j : Nat) (q : Key × Value), prs[j]? = some q → ∃ (b : Addr) (u : Value), ps[j]? = some b ∧ IsTup s.heap b #[u, q.2] ∧ keyIs q.1 u = true) →
      ∃ cs : List (Value × Value), cs.length = ps.length ∧ (∀ (j : Nat) (k v : Value), cs[j]? = some (k, v) → ∃ b, ps[j]? = some b ∧ IsTup s.heap b #[k, v]) ∧ ∀ (j : Nat) (k v : Value), cs[j]? = some (k, v) → ∃ q, prs[j]? = some (q, v) ∧ keyIs q k = true := by
    intro ps
    induction ps with
    | nil => exact fun prs _ _ => ⟨[], rfl, fun j k v e => by simp at e, fun j k v e => by simp at e⟩
    | cons b ps ih =>
      intro prs hl h
      cases prs with
      | nil => cases hl
      | cons q prs =>
        obtain ⟨cs, c1, c2, c3⟩ := ih prs (by simpa using hl) fun j q' e => h (j + 1) q' (by simpa using e)
        obtain ⟨b', u, e1, e2, e3⟩ := h 0 q rfl
        cases e1
        refine ⟨(u, q.2) :: cs, by simp [c1], fun j k v e => ?_, fun j k v e => ?_⟩
        · cases j with
          | zero => cases e; exact ⟨b, rfl, e2⟩
          | succ j => exact c2 j k v (by simpa using e)
        · cases j with
          | zero => cases e; exact ⟨q.1, rfl, e3⟩
          | succ j => exact c3 j k v (by simpa using e)
  obtain ⟨cs, c1, c2, c3⟩ := mk ps prs hl key
  have P := PairArg.tuple (prog := X.prog) (w := X.w) a (ps.map Value.ref).toArray (fun j => ps.getD j 0) cs
  refine PySem.call_dict_pairs (knd := mixKind X.prog X.w) (kvs := prs) P (I.ok.hd hcalm) ⟨⟨o, n, g0, hc, hd, hdat⟩, by simp [c1], fun j k v e => ?_⟩ ⟨by rw [hl, c1], fun j k v e => c3 j k v e⟩ (by rw [c1]; exact hz) fun h' tk hd' kk => ?_
  · obtain ⟨b, e1, e2⟩ := c2 j k v e
    have e3 : ps.getD j 0 = b := by rw [List.getD_eq_getElem?_getD, e1]; rfl
    dsimp only
    rw [e3]
    exact ⟨by simp [e1], .inl e2⟩
  · have hm : (s.heap.objs.size == sysModules) = false := beq_eq_false_iff_ne.mpr (Nat.ne_of_gt I.big)
    have hlen : (mergeK [] kvs).length ≤ sizeLine := by
      have := length_mergeK kvs []
      have e := rel.length
      simp only [List.length_nil] at this
      omega
    exact ⟨.ref s.heap.objs.size, _, I.laid (t' := tk) (o := .dK (mergeK [] kvs)) (fun b o e => kk b o (by simp) e) (Nat.le_refl _) ⟨hlen, hm, merged [] prs, KV.merge rel .nil, hd'⟩, rfl, q _ (I.hok.fresh (Nat.le_refl _))⟩
def dictTF : FA := fun S xs => match xs with
  | [x] => (match look S x with
    | .ftp ys => (pairsOf ys).map fun ps => let d := mergeV ps ([], []); .dk d.1 d.2
    | _ => none)
  | _ => none
theorem s_dictT : OpAN X cl (rDictT X.K) dictTF := fun W ω μ S H xs z vs Q s r h k => by
  unfold dictTF at h
  split at h
  · obtain ⟨v, rfl, rv⟩ := repsL1 r
    have rr := repR_of s rv
    revert h rr
    generalize look S _ = x'
    intro h rr
    cases x' with
    | ftp ys =>
      obtain ⟨ps, h1, rfl⟩ := Option.map_eq_some_iff.mp h
      rcases rr with rr | ⟨a, e, rr⟩
      · cases rr with
        | ftp g1 g0 gn g2 =>
          obtain ⟨as, kws, e1, e2, e3, e4⟩ := pairs_rep g2 h1
          subst e1
          obtain ⟨m1, m2⟩ := merge_ok (kvs := []) (d := ([], [])) e3 e4 rfl .nil
          exact ⟨_, _, as, kws, rfl, g1, g0, e2, fun t ht => k t _ ht (.dk m1 m2)⟩
      · cases rr
    | _ => cases h
  · cases h
end
end Dm

set_option Elab.async false
set_option linter.all false
set_option maxRecDepth 100000
set_option autoImplicit false
set_option maxHeartbeats 1000000
/-! DmV: plain tools for DmU. -/
namespace Dm
open PySem PySem.Spec L2
section
variable {env : List Sv} {S : Sto} {a b m mk mv mi : EM} {i : Nat} {s1 s2 : SM} {Q : Vl → Sto → Prop} {QF : Fl → Sto → Prop} {x : Vl}
theorem f_ftpL {xs : List Vl} : ftpF S [.lst xs] = some (.ftp xs) := rfl
theorem f_dictT {l : List (Str × Vl)} (hn : (l.map (·.1)).Nodup) : dictTF S [.ftp (l.map fun p => .tup [.str p.1, p.2])] = some (dkOf l) := f_dict (S := S) l hn
theorem rep_sing {x : Vl} (n : Nat) : (List.replicate n [x]).flatten = List.replicate n x := by
  induction n with
  | zero => rfl
  | succ n ih => rw [List.replicate_succ, List.flatten_cons, ih]; rfl
theorem f_mulTk {x : Vl} {k : Int} (h : 0 ≤ k ∧ k ≤ 1000) : mulTF S (.tup [x]) (.int k) = some (.tup (List.replicate k.toNat x)) := by
  have e : mulTF S (.tup [x]) (.int k) = some (.tup (List.replicate k.toNat [x]).flatten) := if_pos ⟨by simp, by simp, by omega, h.2⟩
  rw [e, rep_sing]
theorem f_mulLk {x : Vl} {k : Int} (h : 0 ≤ k ∧ k ≤ 1000) : mulLF S (.lst [x]) (.int k) = some (.lst (List.replicate k.toNat x)) := by
  rw [f_mulL ⟨by omega, by omega, by simp; omega⟩, rep_sing]
theorem f_addT {xs ys : List Vl} (h : xs.length + ys.length ≤ 16777216) : addF S (.tup xs) (.tup ys) = some (.tup (xs ++ ys)) := if_pos h
theorem w_pop (h : Ret (m env S) fun x S1 => S1.all (rfB S.length) = true ∧ ∃ y, fzV S.length (S1.drop S.length) x = some y ∧ Q y (S1.take S.length)) : Ret (popM m env S) Q := by
  obtain ⟨x, S1, e, ha, y, hf, q⟩ := h
  unfold popM
  rw [e]
  dsimp only
  rw [if_pos ha, hf]
  exact ⟨_, _, rfl, q⟩
theorem w_newR (h : Ret (m env S) fun x S1 => Q (.ref S1.length) (S1 ++ [x])) : Ret (newR m env S) Q := h.bind fun x S1 h => ⟨_, _, rfl, h⟩
theorem w_qshr (e : env[i]? = some (.ow x)) (h : Ret (s2 (env.set i (.v (.ref S.length))) (S ++ [x])) QF) : Ret (seqS (shrS i) s2 env S) QF := w_seq (by
  unfold shrS
  rw [e]
  exact ⟨_, _, rfl, h⟩)
theorem w_dk1 (h : Ret (mk env S) fun k S1 => Ret (mv env S1) fun v S2 => ∃ q, keyV k = some q ∧ Q (.dk [q] [v]) S2) : Ret (dk1 mk mv env S) Q := h.bind fun k S1 h => h.bind fun v S2 ⟨q, e, h⟩ => by
  rw [e]
  exact ⟨_, _, rfl, h⟩
theorem w_setD {ks : List Key} {xs : List Vl} (e : env[i]? = some (.ow (.dk ks xs))) (h : Ret (mv env S) fun v S1 => Ret (mi env S1) fun k S2 => ∃ q, keyV k = some q ∧ ks.length < 16777216 ∧ QF (.nx (env.set i (.ow (.dk (putV ks xs q v).1 (putV ks xs q v).2)))) S2) : Ret (setD i mi mv env S) QF := by
  unfold setD
  rw [e]
  refine h.bind fun v S1 h => h.bind fun k S2 ⟨q, e2, hl, h⟩ => ?_
  rw [e2]
  dsimp only
  rw [if_pos hl]
  exact ⟨_, _, rfl, h⟩
theorem w_appR {n : Nat} {ys : List Vl} (e : env[i]? = some (.v (.ref n))) (e2 : S[n]? = some (.lst ys)) (h : Ret (m env S) fun x S1 => ∃ xs, S1[n]? = some (.lst xs) ∧ xs.length < 16777216 ∧ QF (.nx env) (S1.set n (.lst (xs ++ [x])))) : Ret (appR i m env S) QF := by
  unfold appR
  rw [e]
  dsimp only
  rw [e2]
  dsimp only
  refine h.bind fun x S1 ⟨xs, h1, h2, h3⟩ => ?_
  rw [h1]
  dsimp only
  rw [if_pos h2]
  exact ⟨_, _, rfl, h3⟩
end
end Dm

set_option Elab.async false
set_option linter.all false
set_option maxRecDepth 100000
set_option autoImplicit false
set_option maxHeartbeats 2000000
/-! DmX: several except clauses, with and without a name; a lambda without parameters handed to a def. -/
namespace Dm
open PySem PySem.Spec PyProof.Rows L2
/-! ### except clauses -/
structure Cz where
  c : Value
  i : Option Nat
  ts : Addr → Value → Option Addr → TS
def offD (D : Ends) (i : Nat) : Ends where
  nx := fun τ H => D.nx (τ.set i none) H
  rt := D.rt
  bk := fun τ H => D.bk (τ.set i none) H
  ct := fun τ H => D.ct (τ.set i none) H
/-- what the clauses wish of an exception -/
def wCz (K : PySem.W.Frag) (Wo : WX) (D : Ends) : List Cz → WX
  | [] => Wo
  | z :: r => fun cls d τ H => ∃ b, PySem.W.exmOne K cls z.c = some b ∧ (b = false → wCz K Wo D r cls d τ H) ∧
      (b = true → ∀ a, H a = none → match z.i with
        | none => z.ts a cls d D τ H
        | some i => z.ts a cls d (offD D i) (τ.set i (some (.ref a))) H)
inductive CzOk (X : Cx) : List ExceptHandler → List Cz → Prop
  | nil : CzOk X [] []
  | as_ {x n : Str} {c : Value} {i : Nat} {ts : Addr → Value → Option Addr → TS} {b₀ : Stmt} {su : List Stmt} {p1 p2 : Pos} {hds : List ExceptHandler} {l : List Cz} (hN : X.N.Nodup) (hi : X.N[i]? = some n) (hln : X.env.kindOf n = some .local) (hc : Names X x c)
      (hsu : ∀ (a : Addr) (oe : Obj) (cls : Value) (d : Option Addr) (pn : List (Addr × Obj)), Zc cls d oe → (∃ vs, oe.data = .fields vs) → PSs (X.suite a ((a, oe) :: pn)) (b₀ :: su) (ts a cls d)) (r : CzOk X hds l) :
      CzOk X (.ExceptHandler (some (.Name x p1)) (some n) (b₀ :: su) p2 :: hds) (⟨c, some i, ts⟩ :: l)
  | no {x : Str} {c : Value} {ts : Addr → Value → Option Addr → TS} {b₀ : Stmt} {su : List Stmt} {p1 p2 : Pos} {hds : List ExceptHandler} {l : List Cz} (hc : Names X x c)
      (hsu : ∀ (a : Addr) (oe : Obj) (cls : Value) (d : Option Addr) (pn : List (Addr × Obj)), Zc cls d oe → (∃ vs, oe.data = .fields vs) → PSs (X.suite a ((a, oe) :: pn)) (b₀ :: su) (ts a cls d)) (r : CzOk X hds l) :
      CzOk X (.ExceptHandler (some (.Name x p1)) none (b₀ :: su) p2 :: hds) (⟨c, none, ts⟩ :: l)
section
variable {X : Cx} {bd : List Stmt} {h₀ : ExceptHandler} {hds : List ExceptHandler} {l : List Cz} {pos : Pos} {tb : WX → TS} {Wz : WX}
theorem try_mix (hst : X.stack = X.env :: X.outer) (hlo : X.env.frame = some X.env.locals) (tk : Takes X Wz)
    (hbd : ∀ (W : WX) (pn : List (Addr × Obj)) (xe : Value → Shared → Prop), Takes (X.tr pn xe) W → PassesOwn (model X.prog X.w) X.A X.env xe → PSs (X.tr pn xe) bd (tb W))
    (hh : CzOk X (h₀ :: hds) l) : PS X (.Try bd (h₀ :: hds) [] [] pos) (fun D τ H => tb (wCz X.K Wz D l) D τ H) := by
  refine ⟨fun pins s τ H D I h => ?_⟩
  have ok := I.ok
  have fra : X.A.frames = some (X.env :: X.outer) := by
    rw [ok.frames, hst]
  refine wpAny_Try_except ?_
  let xz : Value → Shared → Prop := fun e s₁ => wpAny (model X.prog X.w) X.A (noteFrame e X.env) (fun _ s₂ => wpAny (model X.prog X.w) X.A (setFlight e none)
    (fun _ s₃ => wpAny (model X.prog X.w) X.A (handleBy e X.env (h₀ :: hds)) (SP X pins D) X.xe s₃) X.xe s₂) X.xe s₁
  refine wpAny_mono ((hbd (wCz X.K Wz D l) (X.pn ++ pins) xz (fun u s' xx => ?_) PassesOwn.looking).run [] s τ H D (I.toTry _) h) (fun f s1 fin => ?_) (fun e s1 z => z)
  · obtain ⟨a, B, sI, pins', τ', H', cls, d, rfl, J', nb, up, sky, na, os, ag, w⟩ := xx
    have J : Inv X pins τ' H' sI := J'.ofTry ok
    have sk : Sky B (X.env :: X.outer) a (Zc cls d) X.env.locals s'.heap := by
      rw [← hst]
      exact sky
    show wpAny (model X.prog X.w) X.A (noteFrame (.ref a) X.env) _ _ _
    refine Sky.land Zc.steady fra hlo sk fun g3 fl up3 => ?_
    have J3 : Inv X pins τ' H' { s' with heap := g3 } := J.landed nb fl.1 (up.trans up3) os ag
    obtain ⟨o3, vs3, he3, hz3, hd3⟩ := fl.there
    have nfr : a ∉ frs (X.env :: X.outer) := fun hm => by
      obtain ⟨_, o', e', no⟩ := fl.2.2.1.mem hm
      rw [he3] at e'
      cases e'
      exact no _ hd3
    have nL : a ≠ X.env.locals := fun z => nfr (List.mem_filterMap.mpr ⟨X.env, by simp, by rw [hlo, z]⟩)
    have nF : a ∉ X.fs := fun hm => by
      obtain ⟨e, he, q⟩ := List.mem_filterMap.mp hm
      exact nfr (List.mem_filterMap.mpr ⟨e, by simp [he], q⟩)
    have S3 := J3.suite he3 hd3 na nL nF
    have LT : PySem.W.Looks (model X.prog X.w) g3 (typeOf (.ref a)) cls := fun A Q E s k q => wpAny_typeOf_ref (k _ _ he3) (by
      rw [hz3.1]
      exact q)
    have test : ∀ {x : Str} {c : Value} {p1 : Pos} {Q E : Value → Shared → Prop}, Names X x c → Q c { s' with heap := g3 } → wpAny (model X.prog X.w) (X.A.mark (some (.ref a))) (eval (.Name x p1) X.env) Q E { s' with heap := g3 } := fun {x c p1 Q E} hc q => by
      obtain ⟨hg, hdb, hm | ⟨hm, hv, hne⟩⟩ := hc
      · exact ld_glob (X := X.suite a ((a, o3) :: (X.pn ++ pins))) S3 hg hm q hdb
      · exact ld_blt (X := X.suite a ((a, o3) :: (X.pn ++ pins))) S3 hg hm hv q hne hdb
    have go : ∀ {hs' : List ExceptHandler} {l' : List Cz}, CzOk X hs' l' → wCz X.K Wz D l' cls d τ' H' → wpAny (model X.prog X.w) X.A (handleBy (.ref a) X.env hs') (SP X pins D) X.xe { s' with heap := g3 } := by
      intro hs' l' hk
      induction hk with
      | nil =>
        intro w
        refine wpAny_handleBy_nil ?_
        obtain ⟨k1, k2, k3, oe, vs, T, oT, ts', he, hz, hd, h1, hr⟩ := id fl
        unfold PySem.passOn
        refine wpAny_bind (wpAny_field he hd h1 ?_)
        rw [if_neg (by simp)]
        have out : wpAny (model X.prog X.w) X.A (setFlight (.ref a) X.env.frame) (fun _ s4 => wpAny (model X.prog X.w) X.A (throw (.ref a) : Sem Flow) (SP X pins D) X.xe s4) X.xe { s' with heap := g3 } := by
          rw [hlo]
          refine HandSPX.setFlight_upZ fl fun g4 hh4 up4 => wpAny_throw (tk _ _ ⟨a, B, sI, pins, τ', H', cls, d, rfl, J, nb, (up.trans up3).trans up4, .inr (.inr ?_), na, os, ag, w⟩)
          rw [hst]
          exact hh4
        first
          | exact wpAny_bind (wpAny_pure (wpAny_bind out))
          | exact wpAny_bind out
      | @as_ x n c i ts b₀ su p1 p2 hds2 l2 hN hi hln hc hsu r ih =>
        intro w
        obtain ⟨b, hb1, no, yes⟩ := w
        refine wpAny_handleBy_cons (codeAny_handlers_test ?_) (by intro q; cases q)
        refine test hc ((PySem.W.exm_one (M := model X.prog X.w) J3.kIn LT hb1).here ?_)
        cases b with
        | false => exact ih (no rfl)
        | true =>
          refine codeAny_handlers_suite_as (HandSPX.lands_againZ fl fun g4 fl4 up4 => ?_)
          have J4 : Inv X pins τ' H' { s' with heap := g4 } := J.landed nb fl4.1 ((up.trans up3).trans up4) os ag
          obtain ⟨o4, vs4, he4, hz4, hd4⟩ := fl4.there
          have S4 := J4.suite he4 hd4 na nL nF
          refine store_ok (X := X.suite a ((a, o4) :: (X.pn ++ pins))) (v := .ref a) S4 hN hi (.inl hln) rfl (fun s5 S5 => ?_) (.inr hln)
          refine wpAny_mono ((hsu a o4 cls d (X.pn ++ pins) hz4 ⟨_, hd4⟩).run [] s5 _ H' _ S5 (yes rfl a na)) (fun f s6 fin => ?_) (fun _ _ z => False.elim z)
          have off : ∀ {τ6 : L2.St} {H6 : Hp} {Q : Shared → Prop}, Inv (X.suite a ((a, o4) :: (X.pn ++ pins))) [] τ6 H6 s6 → (∀ s7, Inv X pins (τ6.set i none) H6 s7 → Q s7) →
              wpAny (model X.prog X.w) X.A (do bindName X.env n .none; unbindBehindTheSuite X.env n p2) (fun _ s7 => Q s7) X.xe s6 := fun S6 hq => gone_ok (S6.unsuite ok) hN hi hln hq
          cases f with
          | next =>
            obtain ⟨_, _, S6, q6⟩ := fin
            exact off S6 fun _ J7 => ⟨_, _, J7, q6⟩
          | brk =>
            obtain ⟨_, _, S6, q6⟩ := fin
            exact off S6 fun _ J7 => ⟨_, _, J7, q6⟩
          | cont =>
            obtain ⟨_, _, S6, q6⟩ := fin
            exact off S6 fun _ J7 => ⟨_, _, J7, q6⟩
          | ret u =>
            obtain ⟨_, _, _, S6, r6, q6⟩ := fin
            exact off S6 fun _ J7 => ⟨_, _, _, J7, r6, q6⟩
      | @no x c ts b₀ su p1 p2 hds2 l2 hc hsu r ih =>
        intro w
        obtain ⟨b, hb1, no, yes⟩ := w
        refine wpAny_handleBy_cons (codeAny_handlers_test ?_) (by intro q; cases q)
        refine test hc ((PySem.W.exm_one (M := model X.prog X.w) J3.kIn LT hb1).here ?_)
        cases b with
        | false => exact ih (no rfl)
        | true =>
          refine codeAny_handlers_suite (HandSPX.lands_againZ fl fun g4 fl4 up4 => ?_)
          have J4 : Inv X pins τ' H' { s' with heap := g4 } := J.landed nb fl4.1 ((up.trans up3).trans up4) os ag
          obtain ⟨o4, vs4, he4, hz4, hd4⟩ := fl4.there
          refine wpAny_mono ((hsu a o4 cls d (X.pn ++ pins) hz4 ⟨_, hd4⟩).run [] _ _ H' _ (J4.suite he4 hd4 na nL nF) (yes rfl a na)) (fun f s6 fin => ?_) (fun _ _ z => False.elim z)
          cases f with
          | next =>
            obtain ⟨_, _, S6, q6⟩ := fin
            exact ⟨_, _, S6.unsuite ok, q6⟩
          | brk =>
            obtain ⟨_, _, S6, q6⟩ := fin
            exact ⟨_, _, S6.unsuite ok, q6⟩
          | cont =>
            obtain ⟨_, _, S6, q6⟩ := fin
            exact ⟨_, _, S6.unsuite ok, q6⟩
          | ret u =>
            obtain ⟨_, _, _, S6, r6, q6⟩ := fin
            exact ⟨_, _, _, S6.unsuite ok, r6, q6⟩
    exact go hh w
  · cases f with
    | next =>
      obtain ⟨_, _, J', q⟩ := fin
      exact wpAny_execs_nil ⟨_, _, J'.ofTry ok, q⟩
    | brk =>
      obtain ⟨_, _, J', q⟩ := fin
      exact ⟨_, _, J'.ofTry ok, q⟩
    | cont =>
      obtain ⟨_, _, J', q⟩ := fin
      exact ⟨_, _, J'.ofTry ok, q⟩
    | ret u =>
      obtain ⟨_, _, _, J', r, q⟩ := fin
      exact ⟨_, _, _, J'.ofTry ok, r, q⟩
end
/-! ### a lambda is made -/
abbrev lamQ (X : Cx) : Str := X.env.qual ++ "<lambda>"
/-- the heap behind the making: the table at P may have one code object more -/
def LamSt (H : Hp) (P : Addr) (q : Str) (ps : Array Value) (H1 : Hp) : Prop := H1 = H ∨ ∃ (pos : Pos) (c : Addr), H c = none ∧ H1 = upd (upd H P (.tbl (ps ++ #[rawInt pos.line, rawInt pos.col, .ref c]))) c (LamX.CodeO c q)
section
variable {X : Cx} {pins : List (Addr × Obj)} {τ : L2.St} {H : Hp} {s : Shared}
theorem lam_mk {c P : Addr} {ps : Array Value} {pa : Arguments} {bd : Expr} {sc : Scope} {pos : Pos} {E Q : Value → Shared → Prop} (I : Inv X pins τ H s) (TB : LamX.TabB X.base X.mg c P) (hcode : X.env.code = .ref c) (hP : H P = some (.tbl ps)) (ht : TriplesOk ps.toList)
    (ha : ∀ (pos : Pos) (cv : Value), codeAmong pos ps.toList = some cv → ∃ c, cv = .ref c ∧ H c = some (LamX.CodeO c (lamQ X))) (hdef : defaultsOf pa X.env = ([], [])) (hfree : ∀ y ∈ sc.names, y.2 = .free → ∃ c, X.env.cells.lookup y.1 = some c)
    (h : ∀ (f c' : Addr) (pm ctv : Value) (H1 : Hp) (s' : Shared), Inv X pins τ H1 s' → LamSt H P (lamQ X) ps H1 → s'.heap.get? f = some (PySem.W.kla_obj "<lambda>" (lamQ X) pa bd sc (cloFrom X.env.cells sc.names []) pm c' ctv) → H1 f = none → f ∉ frs X.stack → H1 c' = some (LamX.CodeO c' (lamQ X)) → Q (.ref f) s') :
    wpAny (model X.prog X.w) X.A (eval (.Lambda pa bd sc pos) X.env) Q E s := by
  have bP : s.heap.BuiltinsAt X.mg P := TB.bm.keeps I.bk
  have gP : s.heap.get? P = some { cls := .none, data := .fields ps } := I.hok P _ hP
  have off : ∀ f, s.heap.objs.size ≤ f → f ∉ frs X.stack := fun f hf z => by
    rcases List.mem_cons.mp (I.stkSub _ z) with e | e
    · have lt := I.lt
      rw [← e] at lt
      exact Nat.lt_irrefl _ (Nat.lt_of_lt_of_le lt hf)
    · exact I.nofs hf e
  refine PySem.W.kla_eval hdef ?_
  cases hc : codeAmong pos ps.toList with
  | some cv =>
    obtain ⟨c', rfl, hco⟩ := ha pos cv hc
    refine PySem.W.kla_makeFunctionHit (mg := X.mg) (c := c) (P := P) (ps := ps) (closure_ok hfree) I.ok.glob (I.mod.glob.keeps I.bk) hcode (TB.code.keeps I.bk) gP ht hc bP fun ctv g tk hx hsz => ?_
    have J := I.kept (t' := tk) (h' := g.push (PySem.W.kla_obj "<lambda>" (lamQ X) pa bd sc (cloFrom X.env.cells sc.names []) ((X.mg "__name__").getD .none) c' ctv)) fun b o e => Heap.get?_push_of_some _ (hx b o e)
    exact h _ c' _ ctv H _ J (.inl rfl) (Heap.get?_push_size _ rfl) (I.hok.fresh hsz) (off _ hsz) hco
  | none =>
    refine PySem.W.kla_makeFunction (mg := X.mg) (c := c) (P := P) (ps := ps) (closure_ok hfree) I.ok.glob (I.mod.glob.keeps I.bk) hcode (TB.code.keeps I.bk) gP ht hc TB.gP bP fun c' ctv g tk hx hge hlt hrec htb => ?_
    obtain ⟨c2, oc, vs, t, e2, hoc, hd, hv⟩ := hrec
    cases e2
    have nC : H c' = none := I.hok.fresh hge
    have hsz : s.heap.objs.size ≤ g.objs.size := by omega
    have J := LamX.inv_table (t' := tk) (q := lamQ X) (more := #[rawInt pos.line, rawInt pos.col, .ref c']) (h' := g.push (PySem.W.kla_obj "<lambda>" (lamQ X) pa bd sc (cloFrom X.env.cells sc.names []) ((X.mg "__name__").getD .none) c' ctv)) I hP
      (fun b o hb e => Heap.get?_push_of_some _ (hx b o hb e)) (Heap.get?_push_of_some _ htb) hge ⟨oc, vs, t, Heap.get?_push_of_some _ hoc, hd, hv⟩
    refine h g.objs.size c' _ ctv _ _ J (.inr ⟨pos, c', nC, rfl⟩) (Heap.get?_push_size _ rfl) ?_ (off _ hsz) upd_same
    rw [upd_ne (Nat.ne_of_gt hlt), upd_ne (Nat.ne_of_gt (Nat.lt_of_lt_of_le (Heap.lt_size gP) hsz))]
    exact I.hok.fresh hsz
end
/-! ### the store behind it -/
section
variable {K : PySem.W.Frag} {cl : Cl} {W : Addr → Prop} {μ : List Addr} {S : Sto} {H H1 : Hp} {j k : Nat} {q : Str}
theorem lam_sim (s : Sim K cl W μ S H) (hj : S[j]? = some (.tab k q)) : ∃ ps, H (cl k) = some (.tbl ps) ∧ TabC (Bn W μ) H q ps ∧ ∀ H1, LamSt H (cl k) q ps H1 → Sim K cl W μ S H1 ∧ Ext μ H μ H1 := by
  obtain ⟨a, e1, e2⟩ := s.obs j _ hj
  cases e2 with
  | @tab _ _ ps ea hP tc =>
    subst ea
    refine ⟨ps, hP, tc, fun H1 st => ?_⟩
    rcases st with rfl | ⟨pos, c, nC, rfl⟩
    · exact ⟨s, Ext.refl⟩
    · have nPc : cl k ≠ c := ne_of_none hP nC
      have hm : cl k ∈ μ := List.mem_of_getElem? e1
      have at_ : ∀ b u, H b = some u → b ≠ cl k → upd (upd H (cl k) (.tbl (ps ++ #[rawInt pos.line, rawInt pos.col, .ref c]))) c (LamX.CodeO c q) b = some u := fun b u e n => by rw [upd_ne (ne_of_none e nC), upd_ne n]; exact e
      have nb : ¬ Bn W μ c := s.free nC
      have kp : Kp (Bn W μ) (Bn W μ) μ μ H (upd (upd H (cl k) (.tbl (ps ++ #[rawInt pos.line, rawInt pos.col, .ref c]))) c (LamX.CodeO c q)) := ⟨fun b u e n => ⟨at_ b u e fun z => n (.inl (z ▸ hm)), n⟩, fun _ _ z => z⟩
      have dom : ∀ b, H b ≠ none → upd (upd H (cl k) (.tbl (ps ++ #[rawInt pos.line, rawInt pos.col, .ref c]))) c (LamX.CodeO c q) b ≠ none := fun b e => by
        unfold upd
        split
        · simp
        · split <;> simp_all
      refine ⟨⟨s.len, s.nd, s.dis, fun a w => ((s.trn a w).upd (fun _ z => by cases z)).upd (fun _ z => by cases z), fun n x e => ?_⟩, ⟨fun b o e n => at_ b o e fun z => n (z ▸ hm), dom, fun _ _ z => z, fun _ z => .inl z⟩⟩
      obtain ⟨b, g1, g2⟩ := s.obs n x e
      by_cases hb : b = cl k
      · subst hb
        have hn : n = j := (List.getElem?_inj (List.getElem?_eq_some_iff.mp g1).1 s.nd).mp (g1.trans e1.symm)
        subst hn
        rw [hj] at e
        cases e
        have eL : (ps ++ #[rawInt pos.line, rawInt pos.col, .ref c]).toList = ps.toList ++ [rawInt pos.line, rawInt pos.col, .ref c] := by simp
        refine ⟨_, g1, .tab rfl (by rw [upd_ne nPc, upd_same]) ⟨by rw [eL]; exact PySem.TriplesOk_snoc _ _ _ _ tc.1, fun p' cv hcv => ?_⟩⟩
        rw [eL] at hcv
        rcases LamX.among_app _ tc.1 hcv with z | z
        · exact (tc.mono kp).2 p' cv z
        · exact ⟨c, z, upd_same, nb⟩
      · exact ⟨b, g1, g2.mono kp fun o q => at_ b o q hb⟩
end
end Dm

set_option Elab.async false
set_option linter.all false
set_option maxRecDepth 100000
set_option autoImplicit false
set_option maxHeartbeats 2000000
/-! DmY: x(lambda: e), where x asks and tells what was raised. -/
namespace Dm
open PySem PySem.Spec PyProof.Rows L2
abbrev TTy := (XK → Hp → VK → Prop) → Hp → VK → Prop
def tLamP (P : Addr) (q : Str) (TT : TTy) (t : XK → TE) : TE := fun τ H Q => ∃ ps, H P = some (.tbl ps) ∧ TriplesOk ps.toList ∧ (∀ (pos : Pos) (cv : Value), codeAmong pos ps.toList = some cv → ∃ c, cv = .ref c ∧ H c = some (LamX.CodeO c q)) ∧
  ∀ H1, LamSt H P q ps H1 → TT (fun E H' Q' => t E τ H' Q') H1 Q
section
variable {X : Cx}
theorem lam_call {TT : TTy} {x a : Str} {g c P : Addr} {k : Nat} {pg : Arguments} {bg : List Stmt} {sg : Scope} {dV kV doc pm cdv ct oc : Value} {an od : Option Addr} {osl : Array (Option Value)} {Ng : List Str} {pa : Arguments} {bd : Expr} {sc : Scope} {t : XK → TE} {p lpos pos : Pos}
    (hg : Gl X x) (hm : X.mg x = some (.ref g)) (hk : PySem.W.keepIn X.K (.ref g) = true) (lk : X.K.lookup g = some ⟨oc, od, .func (PySem.W.fnOf x x pg bg sg dV kV doc pm an cdv ct), osl⟩) (hcg : PySem.W.codeIn X.K cdv x = true)
    (hb : L2.Binds X.K (PySem.W.fnOf x x pg bg sg dV kV doc pm an cdv ct) [a] []) (Sg : FnScope Ng [a] sg) (hNg : Ng[0]? = some a) (hva : Vis sg a) (hG : LamX.GivesTo X Ng x sg g cdv bg a (lamQ X) TT)
    (TB : LamX.TabB X.base X.mg c P) (hcode : X.env.code = .ref c) (hr : Room (k + 2) X.A) (L : LamX.LamS X.env.scope sc) (hdef : defaultsOf pa X.env = ([], []))
    (hbi : ∀ (q : Str) (cl : List (Str × Addr)) (pm cv ctv : Value), bindArgs (PySem.W.kla_fn "<lambda>" q pa bd sc cl pm cv ctv) ⟨[], []⟩ = pure [])
    (hbd : ∀ (A : Around) (outer : List Env) (s : Shared) (H : Hp) (E : XK) (f c' : Addr), Room k (A.deeper (LamX.lamEnv X sc s.heap.objs.size f c')) → PE (LamX.lamCx X A outer s H E sc f c') bd (t E))
    (h1 : (x == ("__debug__" : Str)) = false := by decide) (h2 : (a == ("__debug__" : Str)) = false := by decide) (h3 : (a == ("__classdict__" : Str)) = false := by decide) :
    PE X (.Call (.Name x p) [.Lambda pa bd sc lpos] [] pos) (tLamP P (lamQ X) TT t) := by
  refine ⟨fun pins s τ H Q I h => ?_⟩
  obtain ⟨ps, hP, ht, ha, h⟩ := h
  refine wpAny_Call_Name_kw (ld_glob I hg hm ?_ h1)
  refine PySem.W.callWith_K (h₀ := X.base) I.ok.mod.kin hk ?_ (by rfl) (by rfl)
  show wpAny _ _ (spliced ((false, eval (.Lambda pa bd sc lpos) X.env) :: backTo pos (starEach [] X.env))) _ _ s
  refine Calls.spliced_cons (lam_mk I TB hcode hP ht ha hdef (L.has I.ok) fun f c' pm' ctv H1 s' J st hf hfn hfr hco => ?_)
  refine Calls.spliced_nil ⟨J.kIn, ?_⟩
  have rc : codeAny (model X.prog X.w) X.A (.call (.ref g) ⟨[.ref f], []⟩) (CR C8.CX0 X.stack X.prog X.w H1 s' Q C8.E0) s' := by
    refine LamX.run_ofS (N := Ng) (ps := [a]) (us := [.ref f]) (vs := [.ref f]) lk hcg Sg hr J.env0 (hb s' [.ref f] J.kIn rfl) (.cons rfl .nil) rfl fun hr' => ?_
    obtain ⟨u, hu, hq⟩ := hG f c' s' H1 Q (fun E H' Q' => t E τ H' Q') (fun W pn xe E p1 p2 tk hW => LamX.pe_act (i := 0) J L hf hfn hfr (hbi _ _ _ _ _) tk hW hr' (fun A outer s H hr2 => hbd A outer s H E f c' hr2) hNg hva h2 h3) hco (h H1 st)
    exact ⟨u, hu.nox, hq⟩
  refine wpAny_call (codeAny_mono rc fun r s2 hq => ?_)
  cases r with
  | ok fl =>
    cases fl with
    | ret u => exact J.after hq
    | next => exact hq.elim
    | brk => exact hq.elim
    | cont => exact hq.elim
  | error e => exact (show False from hq).elim
end
/-! ### what the clauses tell -/
inductive Hv where
  | one (s : Sx) | tup (ss : List Sx)
def hvV (ns : List Str) (xs : List Vl) : Hv → Option Vl
  | .one s => sxV ns xs s
  | .tup ss => (sxsV ns xs ss).map .tup
def hvT (i : Nat) (C a : Addr) (cls : Value) (d : Option Addr) : Hv → TE
  | .one s => sxT i C a cls d s
  | .tup ss => tTup (sxsT i C a cls d ss)
/-- a clause: its class, the name's place, which classes it takes, what it tells -/
structure Hh where
  cN : Nat
  ix : Option Nat
  tb : Nat → Option Bool
  v : Hv
section
variable {i : Nat} {C a : Addr} {cls : Value} {d : Option Addr} {τ : L2.St} {H : Hp}
theorem sx_mono {s : Sx} {Q Q' : VK} (m : ∀ v H, Q v H → Q' v H) (h : sxT i C a cls d s τ H Q) : sxT i C a cls d s τ H Q' := by
  cases s with
  | s z => exact m _ _ h
  | f n =>
    obtain ⟨x, h1, h2, h3, dd, fs, v, h4, h5, h6, h7⟩ := h
    exact ⟨x, h1, h2, h3, dd, fs, v, h4, h5, h6, m _ _ h7⟩
theorem sxs_mono : ∀ {ss : List Sx} {H : Hp} {Q Q' : List V → Hp → Prop}, (∀ v H, Q v H → Q' v H) → sxsT i C a cls d ss τ H Q → sxsT i C a cls d ss τ H Q'
  | [], _, _, _, m, h => m _ _ h
  | _ :: _, _, _, _, m, h => sx_mono (fun _ _ h => sxs_mono (fun _ _ h => m _ _ h) h) h
theorem hv_mono {v : Hv} {Q Q' : VK} (m : ∀ v H, Q v H → Q' v H) (h : hvT i C a cls d v τ H Q) : hvT i C a cls d v τ H Q' := by
  cases v with
  | one s => exact sx_mono m h
  | tup ss => exact sxs_mono (fun vs H1 ⟨h1, h2⟩ => ⟨h1, fun p hp => m _ _ (h2 p hp)⟩) h
end
/-- what is wished of an exception that the asked one lets out -/
def ttE (K : PySem.W.Frag) (cl : Cl) (Q : VK) : List Hh → XK
  | [] => fun _ _ _ => False
  | h :: r => fun cls d H => ∃ b, PySem.W.exmOne K cls (.ref (cl h.cN)) = some b ∧ (b = false → ttE K cl Q r cls d H) ∧
      (b = true → ∀ a, H a = none → ∀ τ : L2.St, (∀ i, h.ix = some i → τ[i]? = some (some (.ref a))) → hvT (h.ix.getD 0) (cl h.cN) a cls d h.v τ H Q)
def TTh (K : PySem.W.Frag) (cl : Cl) (hs : List Hh) : TTy := fun tl H Q => ∀ Q' : VK, (∀ v H', Q .non H' → Q' v H') → tl (ttE K cl Q hs) H Q'
def czA (cl : Cl) (jf : Nat) (h : Hh) : Cz := ⟨.ref (cl h.cN), h.ix, fun a cls d => tAsg (hvT (h.ix.getD 0) (cl h.cN) a cls d h.v) (gName jf)⟩
def czB (cl : Cl) (h : Hh) : Cz := ⟨.ref (cl h.cN), h.ix, fun a cls d => tRet (hvT (h.ix.getD 0) (cl h.cN) a cls d h.v)⟩
theorem takes_len {X : Cx} {W : WX} (tk : Takes X W) : Takes X (fun cls d τ H => τ.length = X.N.length → W cls d τ H) := fun u s' ⟨a, B, sI, pins, τ, H, cls, d, e, I, nb, up, sky, na, os, ag, w⟩ =>
  tk u s' ⟨a, B, sI, pins, τ, H, cls, d, e, I, nb, up, sky, na, os, ag, w I.len⟩
section
variable {X : Cx} {cl : Cl} {Ng : List Str} {x a q : Str} {sg : Scope} {g : Addr} {cdg : Value} {jf : Nat} {hs : List Hh} {st0 st2 : Stmt} {h₀ : ExceptHandler} {hds : List ExceptHandler} {p1 p2 p3 p4 : Pos}
theorem wA {D : Ends} {Q : VK} {n : Nat} (hj : jf < n) (hD : ∀ (τ : L2.St) (H : Hp) (v : V), τ[jf]? = some (some v) → Q v H → D.nx τ H) : ∀ {hs : List Hh}, (∀ h ∈ hs, ∀ i, h.ix = some i → i ≠ jf ∧ i < n) → ∀ {cls : Value} {d : Option Addr} {τ : L2.St} {H : Hp}, τ.length = n → ttE X.K cl Q hs cls d H → wCz X.K (fun _ _ _ _ => False) D (hs.map (czA cl jf)) cls d τ H
  | [], _, _, _, _, _, _, h => h
  | h :: r, hi, cls, d, τ, H, hl, w => by
    obtain ⟨b, e, no, yes⟩ := w
    refine ⟨b, e, fun z => wA hj hD (fun h' hh => hi h' (List.mem_cons_of_mem _ hh)) hl (no z), fun z a ha => ?_⟩
    show (match h.ix with | none => tAsg (hvT (h.ix.getD 0) (cl h.cN) a cls d h.v) (gName jf) D τ H | some i => tAsg (hvT (h.ix.getD 0) (cl h.cN) a cls d h.v) (gName jf) (offD D i) (τ.set i (some (.ref a))) H)
    have y := yes z a ha
    cases hx : h.ix with
    | none =>
      rw [hx] at y
      refine hv_mono (fun v H1 q => hD _ _ v ?_ q) (y τ fun i z => nomatch z)
      rw [List.getElem?_set_self (by rw [hl]; exact hj)]
    | some i =>
      rw [hx] at y
      obtain ⟨h1, h2⟩ := hi h (List.mem_cons_self ..) i hx
      refine hv_mono (fun v H1 q => hD _ _ v ?_ q) (y (τ.set i (some (.ref a))) fun i' z => by cases z; exact List.getElem?_set_self (by rw [hl]; exact h2))
      rw [List.getElem?_set_ne h1, List.getElem?_set_self (by rw [List.length_set, hl]; exact hj)]
theorem wB {D : Ends} {n : Nat} : ∀ {hs : List Hh}, (∀ h ∈ hs, ∀ i, h.ix = some i → i < n) → ∀ {cls : Value} {d : Option Addr} {τ : L2.St} {H : Hp}, τ.length = n → ttE X.K cl D.rt hs cls d H → wCz X.K (fun _ _ _ _ => False) D (hs.map (czB cl)) cls d τ H
  | [], _, _, _, _, _, _, h => h
  | h :: r, hi, cls, d, τ, H, hl, w => by
    obtain ⟨b, e, no, yes⟩ := w
    refine ⟨b, e, fun z => wB (fun h' hh => hi h' (List.mem_cons_of_mem _ hh)) hl (no z), fun z a ha => ?_⟩
    show (match h.ix with | none => tRet (hvT (h.ix.getD 0) (cl h.cN) a cls d h.v) D τ H | some i => tRet (hvT (h.ix.getD 0) (cl h.cN) a cls d h.v) (offD D i) (τ.set i (some (.ref a))) H)
    have y := yes z a ha
    cases hx : h.ix with
    | none =>
      rw [hx] at y
      exact y τ fun i z => nomatch z
    | some i =>
      rw [hx] at y
      exact y (τ.set i (some (.ref a))) fun i' z => by cases z; exact List.getElem?_set_self (by rw [hl]; exact hi h (List.mem_cons_self ..) i hx)
abbrev Zx (X : Cx) (Ng : List Str) (x : Str) (sg : Scope) (g : Addr) (cdg : Value) (s : Shared) (H : Hp) : Cx := (cxOf C8.CX0 X.prog X.w X.K X.mg X.base Ng x sg g cdg X.A X.stack s H C8.E0).nox
theorem start_len (Ng : List Str) (v : V) (h : 0 < Ng.length) : (L2.start Ng [v]).length = Ng.length := by
  unfold L2.start
  simp
  omega
/-- found = None; try: ask() / except ..: found = ..; return found -/
theorem gives_A (hj : jf ≠ 0 ∧ jf < Ng.length) (hi : ∀ h ∈ hs, ∀ i, h.ix = some i → i ≠ jf ∧ i < Ng.length) (e0 : ∀ (s : Shared) (H : Hp), PS (Zx X Ng x sg g cdg s H) st0 (tAsg (tC .non) (gName jf)))
    (e1 : ∀ (s : Shared) (H : Hp), CzOk (Zx X Ng x sg g cdg s H) (h₀ :: hds) (hs.map (czA cl jf))) (e2 : ∀ (s : Shared) (H : Hp), PS (Zx X Ng x sg g cdg s H) st2 (tRet (tVar jf)))
    (hw : ∀ (s : Shared) (H : Hp) (pn : List (Addr × Obj)) (xe : Value → Shared → Prop), swapsWith (.Call (.Name a p1) [] [] p2) none p3.line ((Zx X Ng x sg g cdg s H).tr pn xe).env = pure false) :
    LamX.GivesTo X Ng x sg g cdg [st0, .Try [.Expr (.Call (.Name a p1) [] [] p2) p3] (h₀ :: hds) [] [] p4, st2] a q (TTh X.K cl hs) := by
  intro f c' s H Q tl act hc h
  have hl := start_len Ng (.ref f) (by omega)
  refine ⟨_, pss_cons (e0 s H) (pss_cons (try_mix (Wz := fun _ _ _ _ => False) (tb := fun W D τ H => ∃ Ech : XK, (∀ cls d τ' H', Ech cls d H' → τ'.length = Ng.length → W cls d τ' H') ∧ τ[0]? = some (some (.ref f)) ∧ H c' = some (LamX.CodeO c' q) ∧ tl Ech H fun _ H' => D.nx τ H')
      rfl rfl LamX.takes0 (fun W pn xe tk _ => ⟨fun pins s' τ H' D I h' => ?_⟩) (e1 s H)) (pss_one (e2 s H))), ?_⟩
  · obtain ⟨Ech, hW, h1, h2, h3⟩ := h'
    exact (pss_one (ps_expr (act _ pn xe Ech p1 p2 (takes_len tk) hW) (hw s H pn xe))).run pins s' τ H' D I ⟨h1, h2, h3⟩
  · refine ⟨ttE X.K cl Q hs, fun cls d τ' H' w hl' => wA (X := X) hj.2 (fun τ H v e q => (⟨v, e, q⟩ : tRet (tVar jf) { nx := fun _ H' => Q .non H', rt := Q } τ H)) hi hl' w, ?_, hc, h _ fun v H' q' => ⟨.non, ?_, q'⟩⟩
    · rw [List.getElem?_set_ne hj.1]
      rfl
    · rw [List.getElem?_set_self (by rw [hl]; exact hj.2)]
/-- try: ask() / except ..: return ..; return None -/
theorem gives_B (hn : 0 < Ng.length) (hi : ∀ h ∈ hs, ∀ i, h.ix = some i → i < Ng.length) (e1 : ∀ (s : Shared) (H : Hp), CzOk (Zx X Ng x sg g cdg s H) (h₀ :: hds) (hs.map (czB cl))) (e2 : ∀ (s : Shared) (H : Hp), PS (Zx X Ng x sg g cdg s H) st2 (tRet (tC .non)))
    (hw : ∀ (s : Shared) (H : Hp) (pn : List (Addr × Obj)) (xe : Value → Shared → Prop), swapsWith (.Call (.Name a p1) [] [] p2) none p3.line ((Zx X Ng x sg g cdg s H).tr pn xe).env = pure false) :
    LamX.GivesTo X Ng x sg g cdg [.Try [.Expr (.Call (.Name a p1) [] [] p2) p3] (h₀ :: hds) [] [] p4, st2] a q (TTh X.K cl hs) := by
  intro f c' s H Q tl act hc h
  have hl := start_len Ng (.ref f) hn
  refine ⟨_, pss_cons (try_mix (Wz := fun _ _ _ _ => False) (tb := fun W D τ H => ∃ Ech : XK, (∀ cls d τ' H', Ech cls d H' → τ'.length = Ng.length → W cls d τ' H') ∧ τ[0]? = some (some (.ref f)) ∧ H c' = some (LamX.CodeO c' q) ∧ tl Ech H fun _ H' => D.nx τ H')
      rfl rfl LamX.takes0 (fun W pn xe tk _ => ⟨fun pins s' τ H' D I h' => ?_⟩) (e1 s H)) (pss_one (e2 s H)), ?_⟩
  · obtain ⟨Ech, hW, h1, h2, h3⟩ := h'
    exact (pss_one (ps_expr (act _ pn xe Ech p1 p2 (takes_len tk) hW) (hw s H pn xe))).run pins s' τ H' D I ⟨h1, h2, h3⟩
  · exact ⟨ttE X.K cl Q hs, fun cls d τ' H' w hl' => wB (X := X) hi hl' w, rfl, hc, h _ fun v H' q' => q'⟩
end
/-! ### the mirror -/
def hndM (c : Nat) (ns : List Str) (ys : List Vl) (S : Sto) : List Hh → Res Vl
  | [] => .bad
  | h :: r => match h.tb c with
    | some true => (match hvV ns ys h.v with
      | some x => .ok x S
      | none => .bad)
    | some false => hndM c ns ys S r
    | none => .bad
/-- x(lambda: e): None, or what the clauses tell -/
def lamM (j k : Nat) (q : Str) (hs : List Hh) (m : EM) : EM := fun env S => match S[j]? with
  | some (.tab k' q') => if k' = k ∧ q' = q then (match m env S with
    | .ok _ S1 => .ok .non S1
    | .exc c ns ys S1 => hndM c ns ys S1 hs
    | .bad => .bad) else .bad
  | _ => .bad
def HhOk (K : PySem.W.Frag) (cl : Cl) (h : Hh) : Prop := ∀ c b, h.tb c = some b → PySem.W.exmOne K (.ref (cl c)) (.ref (cl h.cN)) = some b ∧ (b = true → (∀ s, h.v = .one s → (∃ z, s = .s z) ∨ c = h.cN) ∧ (∀ ss, h.v = .tup ss → ss.length ≤ 1000 ∧ c = h.cN)) ∧ (h.ix = none → ∃ z, h.v = .one (.s z))
section
variable {K : PySem.W.Frag} {cl : Cl} {W : Addr → Prop} {μ : List Addr} {S : Sto} {H : Hp} {d : Addr} {ns : List Str} {ys : List Vl} {Q : VK}
theorem hnd_tt {c : Nat} (s : Sim K cl W μ S H) (xf : XFs K cl (Bn W μ) μ H d ns ys) : ∀ {hs : List Hh}, (∀ h ∈ hs, HhOk K cl h) → ∀ {x : Vl}, hndM c ns ys S hs = .ok x S → (∀ v H', Sim K cl W μ S H' → Ext μ H μ H' → Rep K cl (Bn W μ) μ H' x v → Q v H') → ttE K cl Q hs (.ref (cl c)) (some d) H
  | [], _, _, h, _ => by cases h
  | hd :: r, ok, x, h, q => by
    unfold hndM at h
    cases e : hd.tb c with
    | none => rw [e] at h; cases h
    | some b =>
      rw [e] at h
      obtain ⟨e1, e2, e3⟩ := ok hd (List.mem_cons_self ..) c b e
      refine ⟨b, e1, fun z => ?_, fun z a ha τ hτ => ?_⟩
      · subst z
        exact hnd_tt s xf (fun h' hh => ok h' (List.mem_cons_of_mem _ hh)) h q
      · subst z
        obtain ⟨e4, e5⟩ := e2 rfl
        dsimp only at h
        cases ev : hvV ns ys hd.v with
        | none => rw [ev] at h; cases h
        | some y =>
          rw [ev] at h
          cases h
          cases hv : hd.v with
          | one sx =>
            rw [hv] at ev
            rcases e4 sx hv with ⟨z, rfl⟩ | rfl
            · cases ev
              exact q _ H s Ext.refl (.str z)
            · cases hx : hd.ix with
              | none =>
                obtain ⟨z, hz⟩ := e3 hx
                rw [hv] at hz
                cases hz
                cases ev
                exact q _ H s Ext.refl (.str z)
              | some i => exact sx_t (hτ i hx) xf ev fun v rv => q v H s Ext.refl rv
          | tup ss =>
            rw [hv] at ev
            obtain ⟨hl, rfl⟩ := e5 ss hv
            obtain ⟨zs, ez, rfl⟩ := Option.map_eq_some_iff.mp ev
            cases hx : hd.ix with
            | none =>
              obtain ⟨z, hz⟩ := e3 hx
              rw [hv] at hz
              cases hz
            | some i =>
              refine sxs_t (hτ i hx) xf ez fun vs rs hvl => ⟨by rw [hvl, sizeLine_eq]; omega, fun p hp => ?_⟩
              exact q _ _ (s.fresh hp) (Ext.fresh hp) (.tup upd_same (fun z => s.tracked z hp) (rs.mono (Ext.fresh hp).kp))
end
section
variable {X : Cx} {cl : Cl} {E : XK} {e : Expr} {m : EM} {j k : Nat} {q : Str} {hs : List Hh}
theorem de_lam (h : PE X e (tLamP (cl k) q (TTh X.K cl hs) fun E' => tD X.K cl E' m)) (ok : ∀ h ∈ hs, HhOk X.K cl h) : PE X e (tD X.K cl E (lamM j k q hs m)) := h.imp fun τ H Q ⟨W, ω, μ, S, env, rl, qq⟩ => by
  unfold lamM at qq
  cases hj : S[j]? with
  | none => rw [hj] at qq; exact qq.elim
  | some z =>
    rw [hj] at qq
    cases z with
    | tab k' q' =>
      dsimp only at qq
      by_cases hc : k' = k ∧ q' = q
      · rw [if_pos hc] at qq
        obtain ⟨rfl, rfl⟩ := hc
        obtain ⟨ps, g1, g2, g3⟩ := lam_sim rl.sim hj
        refine ⟨ps, g1, g2.1, fun pos cv hcv => ?_, fun H1 st Q' hQ => ?_⟩
        · obtain ⟨c, a1, a2, _⟩ := g2.2 pos cv hcv
          exact ⟨c, a1, a2⟩
        · obtain ⟨s1, x1⟩ := g3 H1 st
          refine ⟨W, ω, μ, S, env, rl.ext x1 s1, ?_⟩
          cases hm : m env S with
          | bad => rw [hm] at qq; exact qq.elim
          | ok x S1 =>
            rw [hm] at qq
            intro μ2 H2 s2 x2 v rv
            exact hQ v H2 (qq μ2 H2 s2 (x1.trans x2) .non .non)
          | exc c ns ys S1 =>
            rw [hm] at qq
            intro μ2 H2 d s2 x2 xf
            dsimp only at qq
            have key : ∀ {l : List Hh}, (∃ x, hndM c ns ys S1 l = .ok x S1) ∨ hndM c ns ys S1 l = .bad := fun {l} => by
              induction l with
              | nil => exact .inr rfl
              | cons h r ih =>
                unfold hndM
                cases h.tb c with
                | none => exact .inr rfl
                | some b =>
                  cases b with
                  | false => exact ih
                  | true =>
                    dsimp only
                    cases hvV ns ys h.v with
                    | none => exact .inr rfl
                    | some y => exact .inl ⟨y, rfl⟩
            rcases key (l := hs) with ⟨x, ex⟩ | ex
            · rw [ex] at qq
              exact hnd_tt s2 xf ok ex fun v H3 s3 x3 rv => qq μ2 H3 s3 ((x1.trans x2).trans x3) v rv
            · rw [ex] at qq
              exact qq.elim
      · rw [if_neg hc] at qq
        exact qq.elim
    | _ => exact qq.elim
end
end Dm

set_option Elab.async false
set_option linter.all false
set_option maxRecDepth 100000
set_option autoImplicit false
set_option maxHeartbeats 1000000
/-! DmZ: defs that make lambdas: their code objects, tables, the end. -/
namespace Dm
open PySem PySem.Spec PyProof.Rows L2
def codeOf (K : PySem.W.Frag) (n : Str) : Addr := match K.lookup (He.fAd K (n, none)) with
  | some ⟨_, _, .func fd, _⟩ => (match fd.code with | .ref c => c | _ => 0)
  | _ => 0
def tabOf (K : PySem.W.Frag) (n : Str) : Addr := match K.lookup (codeOf K n) with
  | some ⟨_, _, .fields vs, _⟩ => (match (vs[11]? : Option Value) with | some (Value.ref P) => P | _ => 0)
  | _ => 0
/-- the code object's head, and a table that is not written -/
def tabB (K : PySem.W.Frag) (n : Str) : Bool := (match K.lookup (codeOf K n) with
    | some ⟨.type "code", _, .fields vs, _⟩ => (match (vs[11]? : Option Value), vs.getD 18 .none, vs.getD 7 .none, vs.getD 9 .none, vs.getD 10 .none with
      | some (Value.ref P), .str _ _, .int _ _, .bool _, .int _ _ => decide (codeOf K n ≠ P) && (K.lookup P).isNone
      | _, _, _, _, _ => false)
    | _ => false)
theorem tab_hd {K : PySem.W.Frag} {n : Str} {h : Heap} (hB : tabB K n = true) (KX : K.In h) : PySem.W.CodeHd h (codeOf K n) (tabOf K n) ∧ K.lookup (tabOf K n) = none := by
  unfold tabB at hB
  split at hB
  · rename_i dd vs sl hk
    split at hB
    · rename_i P f tf fl tg b tx tt e1 e2 e3 e4 e5
      rw [Bool.and_eq_true] at hB
      have eP : tabOf K n = P := by
        unfold tabOf
        rw [hk]
        dsimp only
        rw [e1]
      have e6 : vs.getD 11 .none = .ref P := by
        rw [Array.getD_eq_getD_getElem?, e1]
        rfl
      rw [eP]
      refine ⟨⟨_, vs, f, tf, fl, tg, b, tx, tt, KX _ _ hk, rfl, rfl, e1, e6, e2, e3, e4, e5, of_decide_eq_true hB.1⟩, ?_⟩
      cases z : K.lookup P with
      | none => rfl
      | some o => rw [z] at hB; simp at hB
    · cases hB
  · cases hB
theorem code_of {K : PySem.W.Frag} {n x qual : Str} {params : Arguments} {body : List Stmt} {scope : Scope} {dvs : List V} {kws : List (Str × V)} {fd : FuncData} (F : FunD K x qual params body scope dvs kws (He.fAd K (n, none)) fd) : fd.code = .ref (codeOf K n) := by
  obtain ⟨oc, od, dV, kV, doc, pm, an, cdv, ct, osl, rfl, lk, hcd, _, _⟩ := F.ex
  show cdv = _
  unfold PySem.W.codeIn at hcd
  cases cdv with
  | ref c =>
    unfold codeOf
    rw [lk]
  | _ => cases hcd
section
variable {P : Program} {w : World} {K : PySem.W.Frag} {mg : Str → Option Value} {base : Heap}
/-- THE RULE for a def, with its code object told -/
theorem fn_okC {cl : Cl} {n x qual : Str} {params : Arguments} {body : List Stmt} {scope : Scope} {dvs : List V} {kws : List (Str × V)} {fd : FuncData} {N ps : List Str} {k : Nat} {b : SM} (F : FunD K x qual params body scope dvs kws (He.fAd K (n, none)) fd) (S : FnScope N ps scope)
    (h : ∀ (A : Around) (outer : List Env) (s : Shared) (H : Hp) (E : XK), Room k (A.deeper (PyProof.Rows.envOfC qual scope s.heap.objs.size (He.fAd K (n, none)) (.ref (codeOf K n)))) → PSs (cxOf (L2.CX P w) P w K mg base N qual scope (He.fAd K (n, none)) (.ref (codeOf K n)) A outer s H E) body (tS K cl E b)) :
    FnOk P w K mg base (L2.CX P w) (k + 1) (He.fAd K (n, none)) fd ps (spM K cl ps.length (runM N.length b)) := by
  have hc := code_of F
  obtain ⟨oc, od, dV, kV, doc, pm, an, cdv, ct, osl, rfl, lk, hcd, _, _⟩ := F.ex
  have hc' : cdv = .ref (codeOf K n) := hc
  subst hc'
  exact fn_of lk hcd S (fun vs H Q E h => spM_len h) fun A outer s H vs Q E hr hsp => ⟨_, h A outer s H E hr, body_ok hsp⟩
end
/-- the tables of the defs nms, told of a heap -/
def Tbs (nms : List Str) (K : PySem.W.Frag) (base : Heap) (mg : Str → Option Value) : Prop := ∀ n ∈ nms, LamX.TabB base mg (codeOf K n) (tabOf K n)
section
variable {X : Cx}
theorem lam_callF {TT : TTy} {x a : Str} {g c P : Addr} {k : Nat} {pg : Arguments} {bg : List Stmt} {sg : Scope} {Ng : List Str} {pa : Arguments} {bd : Expr} {sc : Scope} {t : XK → TE} {p lpos pos : Pos} {q : Str} (hq : lamQ X = q)
    (V : ∃ fd, FunD X.K x x pg bg sg [] [] g fd ∧ L2.Binds X.K fd [a] [] ∧ ∀ q cdg, LamX.GivesTo X Ng x sg g cdg bg a q TT)
    (hg : Gl X x) (hm : X.mg x = some (.ref g)) (Sg : FnScope Ng [a] sg) (hNg : Ng[0]? = some a) (hva : Vis sg a) (TB : LamX.TabB X.base X.mg c P) (hcode : X.env.code = .ref c) (hr : Room (k + 2) X.A) (L : LamX.LamS X.env.scope sc) (hdef : defaultsOf pa X.env = ([], []))
    (hbi : ∀ (q : Str) (cl : List (Str × Addr)) (pm cv ctv : Value), bindArgs (PySem.W.kla_fn "<lambda>" q pa bd sc cl pm cv ctv) ⟨[], []⟩ = pure [])
    (hbd : ∀ (A : Around) (outer : List Env) (s : Shared) (H : Hp) (E : XK) (f c' : Addr), Room k (A.deeper (LamX.lamEnv X sc s.heap.objs.size f c')) → PE (LamX.lamCx X A outer s H E sc f c') bd (t E))
    (h1 : (x == ("__debug__" : Str)) = false := by decide) (h2 : (a == ("__debug__" : Str)) = false := by decide) (h3 : (a == ("__classdict__" : Str)) = false := by decide) :
    PE X (.Call (.Name x p) [.Lambda pa bd sc lpos] [] pos) (tLamP P q TT t) := by
  subst hq
  obtain ⟨fd, F, B, G⟩ := V
  have kp := F.kp
  obtain ⟨oc, od, dV, kV, doc, pm, an, cdv, ct, osl, rfl, lk, hcd, _, _⟩ := F.ex
  exact lam_call hg hm kp lk hcd B Sg hNg hva (G _ _) TB hcode hr L hdef hbi hbd h1 h2 h3
end
theorem passM {X : Cx} {A : Around} {outer : List Env} {s : Shared} {H : Hp} {E : XK} {sc : Scope} {f c' : Addr} : Passes (L2.CX X.prog X.w) (LamX.lamCx X A outer s H E sc f c') E := passes_call (takes_of rfl rfl rfl rfl) fun _ _ _ _ h => h
/-! ### the end -/
theorem walk_ofWT {l : PySem.W.OpenLaw} {n k : Nat} {q : Program} {loose : List Str} {XP : (Str → Option Value) → Heap → Prop} {YP : World → Heap → Prop} {d : DefRec} {CX : World → CXT} {x : Str}
    (hn : l.most = some n) (hn2 : n ≤ sizeLine) (hdf : d.params.defaults = []) (hr : Room k callerA)
    (F : ∀ (w : World) (mg : Str → Option Value) (fa : Addr) (h : Heap), YP w h → h.Ns mainGlobals mg → mg d.name = some (.ref fa) →
      (∀ dL ∈ recsOf q, ∃ a o fd c P, mg dL.name = some (.ref a) ∧ h.get? a = some o ∧ o.data = .func fd ∧ fd.code = .ref c ∧ h.IsCode c P #[] ∧ h.TableAt c P #[]) →
      ∃ (K : PySem.W.Frag) (fd : FuncData) (sp : Sp) (cs : List (Addr × Addr)), K.In h ∧ (∀ p ∈ cs, h.get? p.2 = some { cls := .none, data := .fields #[] }) ∧ (∀ p ∈ cs, K.lookup p.2 = none) ∧ (∀ p ∈ cs, PySem.W.CodeHd h p.1 p.2) ∧ (∀ (s : Shared) (u : Value), BindsTo s fd ⟨[u], []⟩ [(x, u)]) ∧
        (∀ (H : Hp) (a : Addr) (ns : List Int), ns.length ≤ n → (∀ p ∈ cs, H p.2 = some (.tbl #[])) → SqL K H a (ns.map V.int) → sp [.ref a] H (fun v _ => v = .bl true) fun _ _ _ => False) ∧
        ∀ base : Heap, K.In base → base.Ns mainGlobals mg → (∀ p ∈ cs, LamX.TabB base mg p.1 p.2) → FnOk l.prog w K mg base (CX w) k fa fd [x] sp)
    (hCX : ∀ (w : World) (H : Hp) (s : Shared) (e : Value) (s' : Shared), CX w [] H s (fun _ _ _ => False) e s' → False) :
    PySem.W.WalkO q loose XP YP l.row.toRowW d [] (fun f vs => PySem.call f vs) := by
  refine Att.attach_callB hn hdf fun w s₀ s₁ mg mb fa o pm cd doc a vs ns G Y ho hd hcd hmg hobj hints hlen hbits hg => ?_
  obtain ⟨K, fd, sp, cs, KX, hT, nT, C, hb, hsp, hF⟩ := F w mg fa _ Y G.T.g hmg G.T.tab
  exact LamX.law_callTs KX G.T.g G.T.b G.T.builtins G.T.nolimit hg hT nT C G.T.bmain hobj hints (Nat.le_trans hlen hn2) hr hF hb (fun H hH hS => hsp H a ns hlen hH hS) fun H e s' => hCX w H s₁ e s'
/-- the table of a def of the view is empty -/
theorem tab_nil {q : Program} {K : PySem.W.Frag} {mg : Str → Option Value} {h : Heap} {n : Str} {x qual : Str} {params : Arguments} {body : List Stmt} {scope : Scope} {dvs : List V} {kws : List (Str × V)} {fd : FuncData}
    (T : ∀ dL ∈ recsOf q, ∃ a o fd c P, mg dL.name = some (.ref a) ∧ h.get? a = some o ∧ o.data = .func fd ∧ fd.code = .ref c ∧ h.IsCode c P #[] ∧ h.TableAt c P #[])
    (hq : ((recsOf q).any fun e => e.name == n) = true) (KX : K.In h) (hm : mg n = some (.ref (He.fAd K (n, none)))) (hB : tabB K n = true) (F : FunD K x qual params body scope dvs kws (He.fAd K (n, none)) fd) : h.get? (tabOf K n) = some { cls := .none, data := .fields #[] } := by
  obtain ⟨dL, hd, e⟩ := List.any_eq_true.mp hq
  have e' : dL.name = n := beq_iff_eq.mp e
  obtain ⟨a, o, fd', c, P, h1, h2, h3, h4, _, h6⟩ := T dL hd
  rw [e', hm] at h1
  cases h1
  have hc := code_of F
  obtain ⟨_, _, _, _, _, _, _, _, _, _, _, lk, _, _, _⟩ := F.ex
  rw [KX _ _ lk] at h2
  cases h2
  cases h3
  rw [hc] at h4
  cases h4
  obtain ⟨⟨oc, vc, e1, _, e3, e4⟩, hP⟩ := h6
  obtain ⟨⟨o2, vs2, _, _, _, _, _, _, _, g1, _, g3, g4, _⟩, _⟩ := tab_hd hB KX
  rw [e1] at g1
  cases g1
  rw [e3] at g3
  cases g3
  rw [e4] at g4
  cases g4
  exact hP
def tabS (k : Nat) : List Str → Sto
  | [] => []
  | q :: qs => .tab k q :: tabS (k + 1) qs
theorem tabS_get : ∀ {qs : List Str} {k i : Nat} {x : Vl}, (tabS k qs)[i]? = some x → ∃ q, x = .tab (k + i) q
  | [], k, i, x, h => by simp [tabS] at h
  | q :: qs, k, 0, x, h => by
    simp [tabS] at h
    exact ⟨q, by rw [← h]; rfl⟩
  | q :: qs, k, i + 1, x, h => by
    obtain ⟨q', e⟩ := tabS_get (qs := qs) (k := k + 1) (i := i) (by simpa [tabS] using h)
    exact ⟨q', by rw [e]; congr 1; omega⟩
theorem tabS_len : ∀ (qs : List Str) (k : Nat), (tabS k qs).length = qs.length
  | [], _ => rfl
  | _ :: qs, k => by simp [tabS, tabS_len qs (k + 1)]
/-- the law's mirror says True, from a store of empty tables -/
theorem sp_lawT {K : PySem.W.Frag} {cl : Cl} {f : List Vl → Sto → Res Vl} {n k : Nat} {qs : List Str} (h : ∀ ns : List Int, ns.length ≤ n → ∃ S, f [.scr ns] (tabS k qs) = .ok (.bl true) S) (nd : ((List.range qs.length).map fun i => cl (k + i)).Nodup)
    (H : Hp) (a : Addr) (ns : List Int) (hl : ns.length ≤ n) (hT : ∀ i, i < qs.length → H (cl (k + i)) = some (.tbl #[])) (hS : SqL K H a (ns.map V.int)) :
    spM K cl 1 f [.ref a] H (fun v _ => v = .bl true) fun _ _ _ => False := by
  obtain ⟨S, e⟩ := h ns hl
  have s0 : Sim K cl (fun _ => False) ((List.range qs.length).map fun i => cl (k + i)) (tabS k qs) H := by
    refine ⟨by rw [tabS_len]; simp, nd, fun _ _ h => h, fun _ h => h.elim, fun i x hx => ?_⟩
    obtain ⟨q, rfl⟩ := tabS_get hx
    have hi : i < qs.length := by
      have := (List.getElem?_eq_some_iff.mp hx).1
      rwa [tabS_len] at this
    refine ⟨cl (k + i), by rw [List.getElem?_map, List.getElem?_range hi]; rfl, .tab rfl (hT i hi) ⟨True.intro, fun pos cv hc => ?_⟩⟩
    have z : codeAmong pos [] = some cv := hc
    simp [codeAmong] at z
  refine ⟨fun _ => False, _, _, [.scr ns], s0, .cons (.scr ?_) .nil, rfl, ?_⟩
  · rcases hS with hS | hS
    · refine .inl ⟨hS, fun z => z.elim (fun z => ?_) id⟩
      obtain ⟨i, hi, rfl⟩ := List.mem_map.mp z
      have := hT i (List.mem_range.mp hi)
      rcases hS with g | ⟨o, g⟩ <;> rw [this] at g <;> cases g
    · exact .inr hS
  · rw [e]
    intro μ' H' _ _ v r
    cases r
    rfl
end Dm
namespace Dm
open PySem PySem.Spec PyProof.Rows L2
section
variable {K : PySem.W.Frag} {cl : Cl}
theorem hh_as {cN i : Nat} {os : List Nat} {v : Hv} (h1 : PySem.W.exmOne K (.ref (cl cN)) (.ref (cl cN)) = some true) (h2 : ∀ c ∈ os, PySem.W.exmOne K (.ref (cl c)) (.ref (cl cN)) = some false) (hv : ∀ ss, v = .tup ss → ss.length ≤ 1000) : HhOk K cl ⟨cN, some i, tblOf cN os, v⟩ := fun c b e => by
  obtain ⟨g1, g2⟩ := tbl_ok h1 h2 c b e
  exact ⟨g1, fun z => ⟨fun s _ => .inr (g2 z), fun ss hs => ⟨hv ss hs, g2 z⟩⟩, fun z => nomatch z⟩
def tblAll (os : List Nat) : Nat → Option Bool := fun c => if c ∈ os then some true else none
theorem hh_all {cN : Nat} {os : List Nat} {z : Str} (h : ∀ c ∈ os, PySem.W.exmOne K (.ref (cl c)) (.ref (cl cN)) = some true) : HhOk K cl ⟨cN, none, tblAll os, .one (.s z)⟩ := fun c b e => by
  unfold tblAll at e
  dsimp only at e
  split at e
  · rename_i hc
    cases e
    exact ⟨h c hc, fun _ => ⟨fun s hs => by cases hs; exact .inl ⟨z, rfl⟩, fun ss hs => nomatch hs⟩, fun _ => ⟨z, rfl⟩⟩
  · cases e
def ixB (hs : List Hh) (jf n : Nat) : Bool := hs.all fun h => match h.ix with
  | some i => decide (i ≠ jf) && decide (i < n)
  | none => true
theorem ix_ok {hs : List Hh} {jf n : Nat} (h : ixB hs jf n = true) : ∀ x ∈ hs, ∀ i, x.ix = some i → i ≠ jf ∧ i < n := fun x hx i e => by
  have := List.all_eq_true.mp h x hx
  rw [e] at this
  simp only [Bool.and_eq_true, decide_eq_true_eq] at this
  exact this
end
end Dm
namespace Dm
open PySem PySem.Spec PyProof.Rows L2
/-! ### xs.index(i), integers -/
def intsOf : List Vl → Option (List Int)
  | [] => some []
  | .int i :: xs => (intsOf xs).map (i :: ·)
  | _ => none
def idxI : F2 := fun S x y => match look S x, y with
  | .lst xs, .int i => (intsOf xs).bind fun ss => (ss.findIdx? fun q => decide (q = i)).map fun j => .int (j : Nat)
  | _, _ => none
def idxIM (a b : EM) : EM := fun env S => (a env S).bind fun x S1 => match look S1 x with
  | .lst _ => (b env S1).bind fun y S2 => match idxI S2 x y with
    | some v => .ok v S2
    | none => .bad
  | _ => .bad
theorem ints_reps {K : PySem.W.Frag} {cl : Cl} {B : Addr → Prop} {μ : List Addr} {H : Hp} : ∀ {xs : List Vl} {vs : List V} {ss : List Int}, Reps K cl B μ H xs vs → intsOf xs = some ss → vs = ss.map V.int
  | _, _, _, .nil, h => by cases h; rfl
  | _, _, ss, .cons r rs, h => by
    cases r with
    | int s =>
      unfold intsOf at h
      obtain ⟨t, ht, rfl⟩ := Option.map_eq_some_iff.mp h
      rw [ints_reps rs ht]
      rfl
    | _ => cases h
theorem eqV_int (a b : Int) : eqV (.int a) (.int b) = decide (a = b) := by
  show (a == b) = _
  by_cases h : a = b
  · subst h; simp
  · simp [h]
theorem de_idxI {X : Cx} {cl : Cl} {E : XK} {a b : EM} {e : Expr} (h : PE X e (tBM X.K "list" (rIndex X.K) (tL X.K cl E a) (tCons (tD X.K cl E b) tNil))) : PE X e (tD X.K cl E (idxIM a b)) := h.imp fun τ H Q ⟨W, ω, μ, S, env, rl, q⟩ => by
  refine ⟨W, ω, μ, S, env, rl, q.bind.mono fun x S1 μ1 H1 _ s1 e1 q1 v rv => ?_⟩
  have r1 := repR_of s1 rv
  revert q1 r1
  generalize hx : look S1 x = x'
  intro q1 r1
  cases x' with
  | lst xs =>
    obtain ⟨p, vs, rfl, h2, h3⟩ := repR_lst r1
    refine ⟨.inl ⟨rfl, vs, .of h2⟩, ⟨W, ω, μ1, S1, env, rl.ext e1 s1, SatG.mono (SatG.bind q1) fun y S2 μ2 H2 _ s2 e2 q2 u ru => ?_⟩⟩
    cases hz : idxI S2 x y with
    | none => rw [hz] at q2; exact q2.elim
    | some z =>
      rw [hz] at q2
      unfold idxI at hz
      have r2 := repR_of s2 (RepL.mono s1 e2 rv)
      revert hz r2
      generalize look S2 x = x2
      intro hz r2
      cases x2 with
      | lst ys =>
        cases y with
        | int s =>
          cases ru
          obtain ⟨p2, ws, e3, h4, h5⟩ := repR_lst r2
          cases e3
          dsimp only at hz
          obtain ⟨ss, hs, hz⟩ := Option.bind_eq_some_iff.mp hz
          obtain ⟨j, hj, rfl⟩ := Option.map_eq_some_iff.mp hz
          have ew := ints_reps h5 hs
          subst ew
          obtain ⟨hjl, hp, hno⟩ := List.findIdx?_eq_some_iff_getElem.mp hj
          refine ⟨p, ss.map V.int, .int s, j, .int ss[j], rfl, rfl, .of h4, rfl, ?_, ?_, ?_, fun m z' hm hz' => ?_, q2 μ2 H2 s2 Ext.refl _ (.int _)⟩
          · rw [List.all_map]
            exact List.all_eq_true.mpr fun _ _ => rfl
          · rw [List.getElem?_map, List.getElem?_eq_getElem hjl]
            rfl
          · rw [eqV_int]
            exact hp
          · rw [List.getElem?_map, List.getElem?_eq_getElem (by omega)] at hz'
            cases hz'
            rw [eqV_int]
            have := hno m hm
            simpa using this
        | _ => cases hz
      | _ => cases hz
  | _ => exact q1.elim
end Dm

set_option Elab.async false
set_option linter.all false
set_option maxRecDepth 100000
set_option autoImplicit false
set_option maxHeartbeats 1000000
namespace Dm
open PySem PySem.Spec PyProof.Rows L2
/-! ### the head's hook without the tables -/
def noTab (g : Addr → Option Obj) (a : Addr) : Bool := match g a with
  | some ⟨.none, _, .fields vs, _⟩ => !(vs.size == 0)
  | _ => true
def obsXT (n : Nat) (fx : List Fx) (fa : List He.Fa) (fn : List He.DefD) (g : Addr → Option Obj) : AlX := obsX fx fa fn (He.frG g (cStatics :: (He.asD g n).filter (noTab g)))
def hookT (n : Nat) (fx : List Fx) (fa : List He.Fa) (fn : List He.DefD) : PySem.W.Hook where
  α := AlX
  obs := fun s => obsXT n fx fa fn s.heap.get?
  val := fun _ => (true, He.valD fn)
  says := fun _ h => ∃ K : PySem.W.Frag, K.In h ∧ SaysX fx fa fn K
  of := fun _ _ e => ⟨_, He.frG_in, ⟨congrArg (fun z : AlX => z.1) e, congrArg (fun z : AlX => z.2) e⟩⟩
  keeps := fun _ _ _ ⟨K, hK, c⟩ k => ⟨K, PySem.W.Frag.In.keeps hK k, c⟩
theorem obsXT_eq {n : Nat} {fx : List Fx} {fa : List He.Fa} {fn : List He.DefD} {g : Addr → Option Obj} {s : Shared} (h : ∀ a, g a = s.heap.get? a) : obsXT n fx fa fn g = (hookT n fx fa fn).obs s := by
  have e : g = s.heap.get? := funext h
  rw [e] <;> rfl
end Dm
namespace Dm
open PySem PySem.Spec PyProof.Rows L2
/-! ### xs != [], whatever xs holds -/
section
variable {X : Cx} {cl : Cl}
def rNeLen (K : PySem.W.Frag) : R2 := fun v u H Q => ∃ a b xs ys, v = .ref a ∧ u = .ref b ∧ SqL K H a xs ∧ SqL K H b ys ∧ xs.length ≠ ys.length ∧ Q (.bl true) H
theorem op_neLen (hu : X.A.units + 1 < cLine) : OpR X (compareOp .NotEq) (rNeLen X.K) := by
  intro pins s τ H x y v u Q I rx ry h
  obtain ⟨a, b, xs, ys, rfl, rfl, h1, h2, hn, q⟩ := h
  cases rx
  cases ry
  obtain ⟨i1, r1, p1, _⟩ := I.list h1
  obtain ⟨i2, r2, p2, _⟩ := I.list h2
  refine PySem.SeqAt.RcNeAt.lists_lengths p1.isList p2.isList ?_ (by omega) X.prog X.w _ _ ⟨.bl true, H, I, rfl, q⟩
  have := r1.length
  have := r2.length
  simp
  omega
def neNF : F2 := fun S x y => match look S x, look S y with
  | .lst xs, .lst [] => some (.bl (!xs.isEmpty))
  | _, _ => none
theorem s_neN : Op2 X cl (fun v u H Q => rNeLen X.K v u H Q ∨ rNeD X.K v u H Q) neNF := fun W ω μ S H x y z v u Q s rx ry h k => by
  have r1 := repR_of s rx
  have r2 := repR_of s ry
  unfold neNF at h
  revert h r1 r2
  generalize look S x = x'
  generalize look S y = y'
  intro h r1 r2
  split at h
  · rename_i xs
    cases h
    cases xs with
    | nil => exact .inr ⟨_, _, dp_ofR (x := .lst []) rfl r1, dp_ofR (x := .lst []) rfl r2, okD_shaped (x := .lst []) rfl, okD_shaped (x := .lst []) rfl, k H _ s Ext.refl (.bl _)⟩
    | cons a xs =>
      obtain ⟨p, vs, rfl, h1, h2⟩ := repR_lst r1
      obtain ⟨p', ws, rfl, h3, h4⟩ := repR_lst r2
      cases h4
      cases h2 with
      | cons _ _ => exact .inl ⟨_, _, _, _, rfl, rfl, .of h1, .of h3, by simp, k H _ s Ext.refl (.bl _)⟩
  · cases h
end
end Dm

set_option Elab.async false
set_option linter.all false
set_option maxRecDepth 100000
set_option autoImplicit false
set_option maxHeartbeats 2000000
/-! DmXv: exceptions kept as values: made by position and by keyword, their fields, isinstance. -/
namespace PySem
namespace HandSPX
open Builtin Builtin.ObjectAttr
section
variable {M : Model} {A : Around} {E : Value → Shared → Prop} {h : Heap} {g : Array GenState} {d : Drawn} {t : Nat} {os : OsState}
variable {nm qn : Str} {C N : Addr} {bs bm bB : List Value} {hd : Bool} {sn : List Str} {sb : List Value} {ab : Bool} {col : Option Bool} {dd : Option Addr} {k0 k1 k2 k3 k5 : Option Value} {B nI iI : String}
/-- the checks ahead of C.__new__, with keywords -/
theorem xv_check (F : ExcBaseFacts B nI iI bB) (hT : ∀ X : String, bm.contains (.type X) = bB.contains (.type X)) {pz : List Value} {kw : List (Str × Value)} {Q : Unit → Shared → Prop}
    (hC : h.get? C = some (excClassObj nm qn C N bs bm hd sn sb ab col dd k0 k1 k2 k3 k5 nI)) (hq : Q () ⟨h, g, d, t, os⟩) : wpAny M A (checkBuiltinCall nI ⟨.ref C :: pz, kw⟩) Q E ⟨h, g, d, t, os⟩ := by
  have c1 : (Value.ref C :: bm).contains (.type B) = true := by rw [List.contains_cons, hT, F.hasB]; exact Bool.or_true _
  have c2 := F.noStar
  simp only [checkBuiltinCall, F.newKind, F.newSplit, F.newRow]
  repeat (first | refine wpAny_loadPart_at hC ?_ | (refine wpAny_isSubtype_exc hC ?_; rw [c1]) | refine wpAny_staticBase_exc hC ?_ | refine wpAny_madeBy_exc hC ?_ | simp only [bne_self_eq_false, Bool.false_eq_true, if_false] | wp_step)
  exact hq
end
section
variable {prog : Program} {w : World} {A : Around} {E : Value → Shared → Prop} {R : Result → Shared → Prop} {h : Heap} {g : Array GenState} {d : Drawn} {t : Nat} {os : OsState}
variable {nm qn : Str} {C N : Addr} {bs bm bB : List Value} {hd : Bool} {sn : List Str} {sb : List Value} {ab : Bool} {col : Option Bool} {dd : Option Addr} {k0 k1 k2 k3 k5 : Option Value} {B nI iI : String}
theorem xv_new (F : ExcBaseFacts B nI iI bB) (hT : ∀ X : String, bm.contains (.type X) = bB.contains (.type X)) {pz : List Value} {kw : List (Str × Value)}
    (hC : h.get? C = some (excClassObj nm qn C N bs bm hd sn sb ab col dd k0 k1 k2 k3 k5 nI))
    (hq : R (.ok (.ret (.ref (h.objs.size + 1)))) ⟨(h.push (W.kdv_tup pz)).push (excO C h.objs.size), g, d, t, os⟩) (hz : pz.length ≤ sizeLine) :
    codeAny (model prog w) A (.builtin nI ⟨.ref C :: pz, kw⟩) R ⟨h, g, d, t, os⟩ := by
  have c0 := F.ends
  have c1 : (Value.ref C :: bm).contains (.type B) = true := by rw [List.contains_cons, hT, F.hasB]; exact Bool.or_true _
  have c2 : (Value.ref C :: bm).contains (.type "AttributeError") = false := by rw [List.contains_cons, hT, F.noAttr] <;> rfl
  have c3 : (Value.ref C :: bm).contains (.type "NameError") = false := by rw [List.contains_cons, hT, F.noName] <;> rfl
  refine codeAny_builtinAt F.entry ?_
  unfold Builtin.«BaseException.__new__»
  refine wpAt_bind ?_
  show wpAt _ _ _ (stack >>= _) _ _ _
  refine wpAt_bind (wpAt_stack fun p below => wpAt_of_wpAny ?_)
  wp_walk
  refine wpAt_of_wpAny ?_
  rw [F.owner]
  repeat (first | with_reducible refine wpAny_madeHere_exc F.canon hC ?_ | with_reducible refine wpAny_loadPart_at hC ?_ | (with_reducible refine wpAny_isSubtype_exc hC ?_; first | rw [c1] | rw [c2] | rw [c3]) | wp_step)
  show R _ _
  rw [Heap.size_push]
  exact hq
theorem xv_type (F : ExcBaseFacts B nI iI bB) (hT : ∀ X : String, bm.contains (.type X) = bB.contains (.type X)) {pz : List Value} {kw : List (Str × Value)} {fI : Addr} {Q : Fin → Shared → Prop}
    (hC : h.get? C = some (excClassObj nm qn C N bs bm hd sn sb ab col dd k0 k1 k2 k3 k5 nI))
    (hi : W.Looks (model prog w) h (typeLookup (.ref C) "__init__") (some (.ref fI))) (hb : ∀ u, W.Looks (model prog w) h (bindSpecial (.ref fI) u) (.ref fI, [u])) (hz : pz.length ≤ sizeLine)
    (hq : codeAny (model prog w) A (.call (.ref fI) ⟨.ref (h.objs.size + 1) :: pz, kw⟩)
      (fun r s' => match r with | .ok (.ret v) => v = .none ∧ Q (.done (.ret (.ref (h.objs.size + 1)))) s' | .ok _ => False | .error e => E e s')
      ⟨(h.push (W.kdv_tup pz)).push (excO C h.objs.size), g, d, t, os⟩) :
    wpAny (model prog w) A (Builtin.«type.__call__» ⟨.ref C :: pz, kw⟩) Q E ⟨h, g, d, t, os⟩ := by
  repeat (first | with_reducible refine wpAny_loadPart_at hC ?_ | with_reducible refine wpAny_madeBy_exc hC ?_ | wp_step)
  refine codeAny_call_builtin_code (Code.quiet_builtin _ F.quiet) (xv_check F hT hC ?_)
  refine xv_new F hT hC ?_ hz
  show wpAny _ _ _ _ _ _
  have kp : ∀ b o, h.get? b = some o → ((h.push (W.kdv_tup pz)).push (excO C h.objs.size)).get? b = some o := fun b o e => Heap.get?_push_of_some _ (Heap.get?_push_of_some _ e)
  have e1 := kp _ _ hC
  have e2 : ((h.push (W.kdv_tup pz)).push (excO C h.objs.size)).get? (h.objs.size + 1) = some (excO C h.objs.size) := by heap_get
  have c1 : (Value.ref C :: bm).contains (.ref C) = true := by simp
  have i1 := hi.keeps kp
  have b1 := (hb (.ref (h.objs.size + 1))).keeps kp
  unfold isInstance
  repeat (first | with_reducible refine wpAny_loadPart_at e2 ?_ | (with_reducible refine wpAny_isSubtype_exc e1 ?_; rw [c1]) | wp_step)
  show wpAny _ _ (typeLookup (.ref C) _) _ _ _
  refine i1.at ?_
  refine wpAny_holding (wpAny_bind (b1.at ?_))
  refine wpAny_bind (wpAny_call (codeAny_mono hq fun r s' z => ?_))
  rcases r with e | (v | _ | _ | _) <;> first | exact z | exact z.elim | skip
  obtain ⟨rfl, z⟩ := z
  first
    | exact wpAny_pure (wpAny_pure z)
    | (wp_walk; exact z)
theorem xv_call (F : ExcBaseFacts B nI iI bB) (hT : ∀ X : String, bm.contains (.type X) = bB.contains (.type X)) {pz : List Value} {kw : List (Str × Value)} {fI : Addr}
    (hC : h.get? C = some (excClassObj nm qn C N bs bm hd sn sb ab col dd k0 k1 k2 k3 k5 nI))
    (hi : W.Looks (model prog w) h (typeLookup (.ref C) "__init__") (some (.ref fI))) (hb : ∀ u, W.Looks (model prog w) h (bindSpecial (.ref fI) u) (.ref fI, [u])) (hz : pz.length ≤ sizeLine)
    (hq : codeAny (model prog w) (A.under (.builtin "type.__call__" ⟨.ref C :: pz, kw⟩)) (.call (.ref fI) ⟨.ref (h.objs.size + 1) :: pz, kw⟩) (W.InitBack (h.objs.size + 1) R)
      ⟨(h.push (W.kdv_tup pz)).push (excO C h.objs.size), g, d, t, os⟩) :
    codeAny (model prog w) A (.call (.ref C) ⟨pz, kw⟩) R ⟨h, g, d, t, os⟩ := by
  have f1 := tc_lookup
  have f2 := tc_bind (.ref C)
  have f3 : (⟨h, g, d, t, os⟩ : Shared).TypeIs (.ref C) "type" := ⟨_, hC, rfl⟩
  refine codeAny_of_tree ?_
  show wpAny _ _ (callAny (.ref C) _) _ _ _
  repeat (any_goals (first | assumption | with_reducible refine wpAny_loadPart_at hC ?_ | wp_step))
  refine ⟨rfl, ?_⟩
  refine codeAny_call_builtin_at (Code.quiet_builtin _ (by decide +kernel)) entry_typeCall (wpAny_check_type_call_sub hC (xv_type F hT hC hi hb hz ?_))
  refine codeAny_mono hq fun r s' z => ?_
  rcases r with e | (v | _ | _ | _) <;> exact z
end
end HandSPX
end PySem
namespace L2
open PySem PySem.Spec PyProof.Rows
section
variable {X : Cx} {CX : CXT} {k n : Nat} {fI C : Addr} {fd : FuncData} {ps ks : List Str} {sp : Sp} {x : Str} {p pos : Pos} {e : Expr} {es : List Expr} {kws : List Keyword} {ta tk : TA} {g : List Value → List Value → List Value} {gV : List V → List V → List V}
/-- C(..), an own exception class with its own __init__: the new object stays as a value -/
theorem run_mkv {pins : List (Addr × Obj)} {σ : St} {H : Hp} {s : Shared} {Q : VK} {us ws : List Value} {vs zs : List V} (T : OexC X.K C) (iC : PySem.W.findIn X.K (.ref C) "__init__" = some (some (.ref fI))) (tI : PySem.W.typeIn X.K (.ref fI) = some (.type "function"))
    (F1 : FnOk X.prog X.w X.K X.mg X.base CX k fI fd ps sp) (hr : Room (k + 1) X.A) (hb : KBn X.K fd ps (n + 1) ks g gV) (hx : Passes CX X (fun _ _ _ => False)) (I : Inv X pins σ H s) (r : Vals vs us) (rz : Vals zs ws) (l1 : vs.length = n) (l2 : zs.length = ks.length) (hz : n ≤ 1000)
    (h : ∀ a, H a = none → sp (gV (.ref a :: vs) zs) (upd H a (exo a C none)) (fun v H2 => v = .non ∧ Q (.ref a) H2) (fun _ _ _ => False)) :
    wpAny (model X.prog X.w) X.A (call (.ref C) us (ks.zip ws)) (EP X pins σ Q) X.xe s := by
  obtain ⟨nm, qn, N, bs, bm, sn, sub, ab, col, dd, k0, k1, k2, k3, k5, hC, hbm⟩ := T.cls
  obtain ⟨hp, gg, dr, tok, os⟩ := s
  have z1 : hp.objs.size ≤ hp.objs.size + 1 := Nat.le_succ _
  have z2 : H (hp.objs.size + 1) = none := I.hok.fresh z1
  have hq := h (hp.objs.size + 1) z2
  have kk : ∀ b o, hp.get? b = some o → ((hp.push (PySem.W.kdv_tup us)).push (PySem.HandSPX.excO C hp.objs.size)).get? b = some o := fun b o e => Heap.get?_push_of_some _ (Heap.get?_push_of_some _ e)
  have e2 : ((hp.push (PySem.W.kdv_tup us)).push (PySem.HandSPX.excO C hp.objs.size)).get? (hp.objs.size + 1) = some (PySem.HandSPX.excO C hp.objs.size) := by heap_get
  have I2 : Inv X pins σ (upd H (hp.objs.size + 1) (exo (hp.objs.size + 1) C none)) ⟨(hp.push (PySem.W.kdv_tup us)).push (PySem.HandSPX.excO C hp.objs.size), gg, dr, tok, os⟩ :=
    I.laid (t' := tok) (a := hp.objs.size + 1) (o := exo (hp.objs.size + 1) C none) kk z1 (exo_ok e2)
  have r1 : Vals (V.ref (hp.objs.size + 1) :: vs) (Value.ref (hp.objs.size + 1) :: us) := .cons rfl r
  have r2 := hb.rel r1 rz
  have n1 : (Value.ref (hp.objs.size + 1) :: us).length = n + 1 := by rw [List.length_cons, ← r.length, l1]
  have hus : us.length ≤ sizeLine := by
    rw [← r.length, sizeLine_eq, l1]
    omega
  refine wpAny_call (PySem.HandSPX.xv_call F.excBase_ValueError (fun Y => PySem.HandSPX.refsVE_contains Y bm hbm) (I.kIn _ _ hC) (PySem.W.looks_findIn I.kIn iC) (fun u => PySem.W.bind_fn I.kIn u tI) hus
    (codeAny_mono (F1.run _ X.stack _ _ ⟨Value.ref (hp.objs.size + 1) :: us, ks.zip ws⟩ (g (Value.ref (hp.objs.size + 1) :: us) ws) _ _ (fun _ _ _ => False) (hr.make C us (ks.zip ws)) (I2.env0.make C us (ks.zip ws)) (hb.to _ (Value.ref (hp.objs.size + 1) :: us) ws I2.kIn n1 (rz.length.symm.trans l2)) r2 hq) fun r s' hq' => ?_))
  cases r with
  | error er => exact hx pins σ _ _ er s' I2 hq'
  | ok fl =>
    cases fl with
    | ret u =>
      obtain ⟨v, H', I3, rv, ev, q3⟩ := I2.after hq'
      subst ev
      exact ⟨rv, ⟨V.ref (hp.objs.size + 1), H', I3, rfl, q3⟩⟩
    | next => exact False.elim hq'
    | brk => exact False.elim hq'
    | cont => exact False.elim hq'
def tMkV (C : Addr) (n : Nat) (sp : Sp) (t : TA) : TE := fun σ H Q => t σ H fun vs H1 => vs.length = n ∧ ∀ a, H1 a = none → sp (.ref a :: vs) (upd H1 a (exo a C none)) (fun v H2 => v = .non ∧ Q (.ref a) H2) (fun _ _ _ => False)
def tMkVK (C : Addr) (m : Nat) (sp : Sp) (gV : List V → List V → List V) (t : TA) : TE := fun σ H Q => t σ H fun zs H1 => zs.length = m ∧ ∀ a, H1 a = none → sp (gV [.ref a] zs) (upd H1 a (exo a C none)) (fun v H2 => v = .non ∧ Q (.ref a) H2) (fun _ _ _ => False)
theorem kb_of (hb : Binds X.K fd ps []) (hn : ps.length = n + 1) : KBn X.K fd ps (n + 1) [] (fun us _ => us) (fun vs _ => vs) :=
  ⟨fun s us ws X l1 l2 => by
    have b := hb s us X (by rw [List.append_nil, l1, hn])
    rw [List.append_nil] at b
    have e : ws = [] := List.length_eq_zero_iff.mp l2
    subst e
    exact b, fun r _ => r⟩
theorem pe_mkv (T : OexC X.K C) (iC : PySem.W.findIn X.K (.ref C) "__init__" = some (some (.ref fI))) (tI : PySem.W.typeIn X.K (.ref fI) = some (.type "function"))
    (F1 : FnOk X.prog X.w X.K X.mg X.base CX k fI fd ps sp) (hr : Room (k + 1) X.A) (hb : Binds X.K fd ps []) (hn : ps.length = n + 1) (hz : n ≤ 1000) (hx : Passes CX X (fun _ _ _ => False)) (hg : Gl X x) (hm : X.mg x = some (.ref C)) (ha : PA X (e :: es) ta)
    (hdb : (x == ("__debug__" : Str)) = false := by decide) (he : starEach (e :: es) X.env = (false, eval e X.env) :: starEach es X.env := by rfl) (hpl : (backTo pos (starEach es X.env)).any (·.1) = false := by rfl) :
    PE X (.Call (.Name x p) (e :: es) [] pos) (tMkV C n sp ta) := by
  refine ⟨fun pins s σ H Q I h => ?_⟩
  refine wpAny_Call_Name_kw (ld_glob I hg hm ?_ hdb)
  refine PySem.W.callWith_K (h₀ := X.base) I.ok.mod.kin T.kC (thn (ha.run pos pins s σ H _ I h) fun us s1 ⟨vs, H1, I1, r1, l1, q1⟩ => ⟨I1.kIn, ?_⟩) he hpl
  exact run_mkv (ks := []) (ws := []) (zs := []) T iC tI F1 hr (kb_of hb hn) hx I1 r1 .nil l1 rfl hz q1
theorem pe_mkv0 (T : OexC X.K C) (iC : PySem.W.findIn X.K (.ref C) "__init__" = some (some (.ref fI))) (tI : PySem.W.typeIn X.K (.ref fI) = some (.type "function"))
    (F1 : FnOk X.prog X.w X.K X.mg X.base CX k fI fd ps sp) (hr : Room (k + 1) X.A) (hb : Binds X.K fd ps []) (hn : ps.length = 1) (hx : Passes CX X (fun _ _ _ => False)) (hg : Gl X x) (hm : X.mg x = some (.ref C))
    (hdb : (x == ("__debug__" : Str)) = false := by decide) : PE X (.Call (.Name x p) [] [] pos) (tMkV C 0 sp tNil) := by
  refine ⟨fun pins s σ H Q I h => ?_⟩
  refine wpAny_Call_Name_kw (ld_glob I hg hm ?_ hdb)
  exact PySem.W.callWith_K0 I.kIn T.kC (run_mkv (ks := []) (ws := []) (zs := []) (us := []) T iC tI F1 hr (kb_of hb hn) hx I .nil .nil rfl rfl (by omega) h.2)
theorem pe_mkvK (T : OexC X.K C) (iC : PySem.W.findIn X.K (.ref C) "__init__" = some (some (.ref fI))) (tI : PySem.W.typeIn X.K (.ref fI) = some (.type "function"))
    (F1 : FnOk X.prog X.w X.K X.mg X.base CX k fI fd ps sp) (hr : Room (k + 1) X.A) (hb : KBn X.K fd ps 1 ks g gV) (hx : Passes CX X (fun _ _ _ => False)) (hg : Gl X x) (hm : X.mg x = some (.ref C)) (hkw : PK X kws tk)
    (hall : (backToKw pos (keywordEach kws X.env)).all (·.1.isSome) = true := by rfl) (hks : (backToKw pos (keywordEach kws X.env)).filterMap (·.1) = ks := by rfl) (hdb : (x == ("__debug__" : Str)) = false := by decide)
    (hpl : ((backTo pos (starEach [] X.env)).any (·.1) || (backToKw pos (keywordEach kws X.env)).any (·.1.isNone)) = false := by rfl) :
    PE X (.Call (.Name x p) [] kws pos) (tMkVK C ks.length sp gV tk) := by
  refine ⟨fun pins s σ H Q I h => ?_⟩
  refine wpAny_Call_Name_kw (ld_glob I hg hm ?_ hdb)
  refine PySem.W.callWith_KW0 (h₀ := X.base) I.ok.mod.kin T.kC hall ?_ hpl
  refine thn (hkw.run pos pins s σ H _ I h) fun ws s2 ⟨zs, H2, I2, rz, l2, q2⟩ => ⟨I2.kIn, ?_⟩
  rw [hks]
  exact run_mkv (us := []) (vs := []) (n := 0) T iC tI F1 hr hb hx I2 .nil rz rfl l2 (by omega) q2
end
/-! ### a field; isinstance -/
section
variable {X : Cx} {C : Addr} {e : Expr} {te : TE} {pos : Pos} {n : Str}
theorem inst_x {pins : List (Addr × Obj)} {σ : St} {H : Hp} {s : Shared} {a d : Addr} {fs : List (Str × V)} (I : Inv X pins σ H s) (h1 : H a = some (exo a C (some d))) (h2 : H d = some (exd d fs)) :
    ∃ (oe : Obj) (od : Obj), PySem.W.InstAt s.heap a oe C (some od) ∧ ∃ mA : Str → Option Value, (∀ name, PySem.W.lookIn name od = some (mA name)) ∧ ∀ f, RelO (fs.lookup f) (mA f) := by
  obtain ⟨t1, ho⟩ := exo_at I.hok h1
  obtain ⟨mA, hns, rel⟩ := exd_at I.hok h2
  obtain ⟨od, hd, hl⟩ := lookIn_ns hns
  exact ⟨_, od, ⟨ho, rfl, rfl, hd⟩, mA, hl, rel⟩
def tXv (C : Addr) (n : Str) (te : TE) : TE := fun σ H Q => te σ H fun x H1 => ∃ (a d : Addr) (fs : List (Str × V)) (v : V), x = .ref a ∧ H1 a = some (exo a C (some d)) ∧ H1 d = some (exd d fs) ∧ fs.lookup n = some v ∧ Q v H1
theorem pe_xv (T : XfC X.K C) (hno : PySem.W.findIn X.K (.ref C) n = some none) (he : PE X e te) (hb : attributeBase e n X.env (eval e X.env) = eval e X.env := by rfl) : PE X (.Attribute e n pos) (tXv C n te) := by
  refine ⟨fun pins s σ H Q I h => ?_⟩
  refine attr_of hb (thn (he.run pins s σ H _ I h) fun u s1 hh => ?_)
  obtain ⟨x, H1, I1, rx, a, d, fs, v, ex, h1, h2, l, q⟩ := hh
  subst ex
  obtain rfl : u = Value.ref a := rx
  obtain ⟨oe, od, J, mA, hl, rel⟩ := inst_x I1 h1 h2
  obtain ⟨u, hu, ru⟩ := RelO.some_of (v := v) (o := mA n) (by rw [← l]; exact rel n)
  exact HandSPX.exc_get I1.kIn J T.ga T.gg T.exC (PySem.W.findObj_own T.hdC hno rfl (by rw [hl, hu])) (handed_of ru) ⟨v, H1, I1.tok _, ru, q⟩
/-- what isinstance asks of an exception class -/
structure XiC (K : PySem.W.Frag) (D : Addr) : Prop where
  x1 : (PySem.W.clsIn K D).isSome = true
  x2 : PySem.W.findIn K (.ref D) "__getattribute__" = some (some (.builtin "BaseException.__getattribute__"))
  x3 : PySem.W.findIn K (.ref D) "__getattr__" = some none
  x4 : PySem.W.subIn K (.ref D) (.type "BaseException") = some true
  x5 : PySem.W.findIn K (.ref D) "__class__" = some (some (.builtin "object.__class__"))
  x6 : PySem.W.specialIn K (.builtin "object.__class__") "__get__" = some (some (.builtin "getset_descriptor.__get__"))
  x7 : PySem.W.takesIn K (.builtin "object.__class__") = some true
  x8 : PySem.W.mroIn K D (.type "object") = some true
def rIsV (K : PySem.W.Frag) : List V → Hp → VK → Prop := fun xs H Q => ∃ (a C : Addr) (d : Option Addr) (c : V) (u : Value) (b : Bool), xs = [.ref a, c] ∧ ClsV c u ∧ XiC K C ∧ H a = some (exo a C d) ∧ (∀ dx, d = some dx → ∃ fs, H dx = some (exd dx fs)) ∧ PySem.W.kitOne K (.ref C) u = some b ∧ Q (.bl b) H
theorem call_isV : CallR X (.builtin "isinstance") (rIsV X.K) := by
  intro pins s σ H xs us Q I r h
  obtain ⟨a, C, d, c, u, b, rfl, k, T, h1, h2, e, q⟩ := h
  obtain ⟨u1, u2, rfl, r1, r2⟩ := vals2 r
  have e2 := k.eq r2
  subst e2
  cases (show u1 = Value.ref a from r1)
  have fin : ∀ {oe : Obj} {od : Option Obj}, PySem.W.InstAt s.heap a oe C od → wpAny (model X.prog X.w) X.A (call (.builtin "isinstance") [.ref a, u2]) (EP X pins σ Q) X.xe s := fun J =>
    PySem.W.kia_one (PySem.W.kitx_exc T.x1 T.x2 T.x3 T.x4 T.x5 T.x6 T.x7 T.x8) I.kIn J e (fun z => nomatch z) fun tk => ⟨.bl b, H, I.tok tk, rfl, q⟩
  cases d with
  | none =>
    obtain ⟨t1, ho⟩ := exo_at I.hok h1
    exact fin (od := none) ⟨ho, rfl, rfl, trivial⟩
  | some dx =>
    obtain ⟨fs, hd⟩ := h2 dx rfl
    obtain ⟨oe, od, J, _⟩ := inst_x I h1 hd
    exact fin J
/-- T(e, ..), a built-in exception class, as a value -/
theorem pe_exB {T N J : String} {x : Str} {p : Pos} {es : List Expr} {ta : TA} (F : ExcB T N J) (hg : Gl X x) (hm : X.mg x = none) (hv : bootBuiltins x = some (.type T)) (ha : PA X (e :: es) ta) (hn : x ≠ "__name__" := by decide) (hdb : (x == ("__debug__" : Str)) = false := by decide)
    (he : starEach (e :: es) X.env = (false, eval e X.env) :: starEach es X.env := by rfl) (hpl : (backTo pos (starEach es X.env)).any (·.1) = false := by rfl) :
    PE X (.Call (.Name x p) (e :: es) [] pos) (fun σ H Q => ta σ H fun vs H1 => vs.length ≤ sizeLine ∧ ∀ a, H1 a = none → Q (.ref a) (upd H1 a (ExO (.type T) a))) := by
  refine ⟨fun pins s σ H Q I h => ?_⟩
  refine wpAny_Call_Name_kw (ld_blt I hg hm hv ?_ hn hdb)
  refine PyProof.Rows.callWith_type1 (thn (ha.run pos pins s σ H _ I h) fun us s1 hh => ?_) he hpl
  obtain ⟨vs, H1, I1, r1, q0, q1⟩ := hh
  obtain ⟨hp1, g1, d1, tk1, os1⟩ := s1
  refine wpAny_call_exc F.call (fun h' a mk => ?_) (Nat.le_trans (Nat.le_of_eq r1.length.symm) q0)
  have hn : H1 a = none := I1.hok.gone mk.new
  obtain ⟨t, ht, _, _⟩ := (PySem.Heap.MadeExc.of mk).there
  exact ⟨.ref a, upd H1 a (ExO (.type T) a), I1.laidN mk.keeps mk.new hn (exO_ok ht ⟨rfl, rfl⟩ rfl rfl rfl (show 4 < 6 by decide)), rfl, q1 a hn⟩
def rIsBx (K : PySem.W.Frag) (T : String) : List V → Hp → VK → Prop := fun xs H Q => ∃ (a : Addr) (c : V) (u : Value) (b : Bool), xs = [.ref a, c] ∧ ClsV c u ∧ H a = some (ExO (.type T) a) ∧ PySem.W.kitOne K (.type T) u = some b ∧ Q (.bl b) H
theorem call_isB {T : String} (FX : ExcAttrFacts T) (lk : typeLookup (.type T) "__class__" = pure (some (.builtin "object.__class__"))) (so : isSubtype (.type T) (.type (".".intercalate ("object.__class__".cutAt '.').dropLast)) = pure true) (nb : (Value.type T == Value.type "builtin_function_or_method") = false) :
    CallR X (.builtin "isinstance") (rIsBx X.K T) := by
  intro pins s σ H xs us Q I r h
  obtain ⟨a, c, u, b, rfl, k, h1, e, q⟩ := h
  obtain ⟨u1, u2, rfl, r1, r2⟩ := vals2 r
  have e2 := k.eq r2
  subst e2
  cases (show u1 = Value.ref a from r1)
  obtain ⟨⟨oe, vs, ho, hz, _⟩, _, _⟩ := I.hok a _ h1
  exact PySem.W.kia_one (PySem.W.kitx_bexc FX lk so nb) I.kIn ⟨oe, ho, hz.1⟩ e (fun z => nomatch z) fun tk => ⟨.bl b, H, I.tok tk, rfl, q⟩
end
/-! ### an exception's __init__ without fields -/
def spX0 (C : Addr) : Sp := fun vs H Q _ => ∃ a, vs = [.ref a] ∧ H a = some (exo a C none) ∧ Q .non H
section
variable {P : Program} {w : World} {K : PySem.W.Frag} {mg : Str → Option Value} {base : Heap} {x qual : Str} {params : Arguments} {body : List Stmt} {scope : Scope} {f : Addr} {fd : FuncData} {k : Nat} {C : Addr} {msg : Str}
end
end L2
namespace Dm
open PySem PySem.Spec L2
section
variable {P : Program} {w : World} {K : PySem.W.Frag} {mg : Str → Option Value} {base : Heap} {x qual : Str} {params : Arguments} {body : List Stmt} {scope : Scope} {f : Addr} {fd : FuncData} {k : Nat} {C : Addr} {msg : Str}
theorem exi0 (F : FunD K x qual params body scope [] [] f fd) (S : FnScope ["self"] ["self"] scope) (T : OexC K C)
    (h : ∀ (cdv : Value) (A : Around) (outer : List Env) (s : Shared) (H : Hp) (E : XK), Room k (A.deeper (PyProof.Rows.envOfC qual scope s.heap.objs.size f cdv)) → PSs (cxOf (L2.CX P w) P w K mg base ["self"] qual scope f cdv A outer s H E) body
      (tDrop (tVeI K (tCons (tVar 0) (tCons (tC (.str msg)) tNil))))) : FnOk P w K mg base (L2.CX P w) (k + 1) f fd ["self"] (spX0 C) :=
  F.ok S (fun vs H Q E ⟨a, e, _⟩ => by rw [e] <;> rfl) fun cdv A outer s H vs Q E hr ⟨a, e, ha, q⟩ => ⟨_, h cdv A outer s H E hr, by
    subst e
    exact ⟨.ref a, rfl, a, C, [.str msg], rfl, by simp, T, ha, q⟩⟩
end
/-! ### mirrors -/
/-- C(..): the fields' names as they lie, the values in the parameters' order by ix -/
def mkX (c : Nat) (ns : List Str) (ix : List Nat) (a : AM) : EM := fun env S => (a env S).bind fun xs S1 => .ok (.exn c ns (pick ix xs).reverse) S1
section
variable {K : PySem.W.Frag} {cl : Cl} {W : Addr → Prop} {μ : List Addr} {S : Sto} {H : Hp} {c : Nat} {a dx : Addr} {f g : Str} {x y : Vl} {v u : V} {Q : VK}
theorem rep_exn {fs : List (Str × V)} {xs : List Vl} (s : Sim K cl W μ S H) (ha : H a = none) (hd : H dx = none) (hne : dx ≠ a) (r : Reps K cl (Bn W μ) μ H xs (fs.map (·.2))) :
    Sim K cl W μ S (upd (upd H dx (exd dx fs)) a (exo a (cl c) (some dx))) ∧ Ext μ H μ (upd (upd H dx (exd dx fs)) a (exo a (cl c) (some dx))) ∧ Rep K cl (Bn W μ) μ (upd (upd H dx (exd dx fs)) a (exo a (cl c) (some dx))) (.exn c (fs.map (·.1)) xs) (.ref a) := by
  have h2 : upd H dx (exd dx fs) a = none := by rw [upd_ne (Ne.symm hne)]; exact ha
  have e1 : Ext μ H μ (upd H dx (exd dx fs)) := Ext.fresh hd
  have e2 : Ext μ (upd H dx (exd dx fs)) μ (upd (upd H dx (exd dx fs)) a (exo a (cl c) (some dx))) := Ext.fresh h2
  exact ⟨(s.fresh hd).fresh h2, e1.trans e2, .exn upd_same (s.free ha) (by rw [upd_ne hne, upd_same]) (s.free hd) rfl ((r.mono e1.kp).mono e2.kp)⟩
theorem heap_v {H1 : Hp} {A B D : HO} : upd (upd (upd H1 a A) dx D) a B = upd (upd H1 dx D) a B := by
  funext b
  by_cases h : b = a
  · rw [h, upd_same, upd_same]
  · rw [upd_ne h, upd_ne h]
    by_cases h2 : b = dx
    · rw [h2, upd_same, upd_same]
    · rw [upd_ne h2, upd_ne h2, upd_ne h]
theorem heap_v2 {H1 : Hp} {A B D F : HO} (hne : dx ≠ a) : upd (upd (upd (upd H1 a A) dx D) a B) dx F = upd (upd H1 dx F) a B := by
  funext b
  by_cases h2 : b = dx
  · rw [h2, upd_same, upd_ne hne, upd_same]
  · rw [upd_ne h2]
    by_cases h : b = a
    · rw [h, upd_same, upd_same]
    · rw [upd_ne h, upd_ne h2, upd_ne h, upd_ne h, upd_ne h2]
theorem xv1 (s : Sim K cl W μ S H) (r : Rep K cl (Bn W μ) μ H x v) (ha : H a = none) (q : ∀ H2 z, Sim K cl W μ S H2 → Ext μ H μ H2 → Rep K cl (Bn W μ) μ H2 (.exn c [f] [x]) z → Q z H2) :
    spX1 (cl c) f [.ref a, v] (upd H a (exo a (cl c) none)) (fun z H2 => z = .non ∧ Q (.ref a) H2) (fun _ _ _ => False) := by
  refine ⟨a, v, rfl, upd_same, fun dx h1 h2 => ⟨rfl, ?_⟩⟩
  rw [upd_ne h2] at h1
  rw [heap_v]
  obtain ⟨p1, p2, p3⟩ := rep_exn (c := c) (fs := [(f, v)]) s ha h1 h2 (.cons r .nil)
  exact q _ _ p1 p2 p3
theorem xv2 (s : Sim K cl W μ S H) (r : Rep K cl (Bn W μ) μ H x v) (r' : Rep K cl (Bn W μ) μ H y u) (ha : H a = none) (q : ∀ H2 z, Sim K cl W μ S H2 → Ext μ H μ H2 → Rep K cl (Bn W μ) μ H2 (.exn c [g, f] [y, x]) z → Q z H2) :
    spX2 (cl c) f g [.ref a, v, u] (upd H a (exo a (cl c) none)) (fun z H2 => z = .non ∧ Q (.ref a) H2) (fun _ _ _ => False) := by
  refine ⟨a, v, u, rfl, upd_same, fun dx h1 h2 => ⟨rfl, ?_⟩⟩
  rw [upd_ne h2] at h1
  rw [heap_v2 h2]
  obtain ⟨p1, p2, p3⟩ := rep_exn (c := c) (fs := [(g, u), (f, v)]) s ha h1 h2 (.cons r' (.cons r .nil))
  exact q _ _ p1 p2 p3
theorem xv0 (s : Sim K cl W μ S H) (ha : H a = none) (q : ∀ H2 z, Sim K cl W μ S H2 → Ext μ H μ H2 → Rep K cl (Bn W μ) μ H2 (.exn c [] []) z → Q z H2) :
    spX0 (cl c) [.ref a] (upd H a (exo a (cl c) none)) (fun z H2 => z = .non ∧ Q (.ref a) H2) (fun _ _ _ => False) :=
  ⟨a, rfl, upd_same, rfl, q _ _ (s.fresh ha) (Ext.fresh ha) (.exz upd_same (s.free ha))⟩
end
section
variable {X : Cx} {cl : Cl} {E : XK} {c k : Nat} {fI : Addr} {fd : FuncData} {ps ks : List Str} {x f g : Str} {e : Expr} {es : List Expr} {kws : List Keyword} {mA : AM} {m : EM} {p pos : Pos}
theorem passN {CXh : X.calm = X.calm} : Passes (L2.CX X.prog X.w) X (fun _ _ _ => False) := passes_call takes_none5 fun _ _ _ _ h => h
theorem de_mkx1 (O : Oe X.K (cl c) fI) (F1 : FnOk X.prog X.w X.K X.mg X.base (L2.CX X.prog X.w) k fI fd ps (spX1 (cl c) f)) (hr : Room (k + 1) X.A) (hb : Binds X.K fd ps []) (hp : ps.length = 2) (hg : Gl X x) (hm : X.mg x = some (.ref (cl c))) (ha : PA X (e :: es) (tDA X.K cl E mA)) (hn : LenA mA 1)
    (hdb : (x == ("__debug__" : Str)) = false := by decide) (he : starEach (e :: es) X.env = (false, eval e X.env) :: starEach es X.env := by rfl) (hpl : (backTo pos (starEach es X.env)).any (·.1) = false := by rfl) :
    PE X (.Call (.Name x p) (e :: es) [] pos) (tD X.K cl E (mkX c [f] [0] mA)) :=
  (pe_mkv (n := 1) O.oc O.iC O.tI F1 hr hb hp (by decide) (passN (CXh := rfl)) hg hm ha hdb he hpl).imp fun σ H Q ⟨W, ω, μ, S, env, rl, q⟩ =>
    ⟨W, ω, μ, S, env, rl, q.bind.mono fun xs S1 μ1 H1 ee s1 e1 q1 vs rs => by
      have hl := hn _ _ _ _ ee
      obtain ⟨x0, rfl⟩ : ∃ x0, xs = [x0] := by
        match xs, hl with
        | [x0], _ => exact ⟨x0, rfl⟩
      cases rs with
      | @cons _ _ y _ r0 rn =>
        cases rn
        exact ⟨rfl, fun a ha => xv1 s1 r0 ha fun H2 z s2 e2 r2 => q1 μ1 H2 s2 e2 z r2⟩⟩
theorem de_mkx2 (O : Oe X.K (cl c) fI) (F1 : FnOk X.prog X.w X.K X.mg X.base (L2.CX X.prog X.w) k fI fd ps (spX2 (cl c) f g)) (hr : Room (k + 1) X.A) (hb : Binds X.K fd ps []) (hp : ps.length = 3) (hg : Gl X x) (hm : X.mg x = some (.ref (cl c))) (ha : PA X (e :: es) (tDA X.K cl E mA)) (hn : LenA mA 2)
    (hdb : (x == ("__debug__" : Str)) = false := by decide) (he : starEach (e :: es) X.env = (false, eval e X.env) :: starEach es X.env := by rfl) (hpl : (backTo pos (starEach es X.env)).any (·.1) = false := by rfl) :
    PE X (.Call (.Name x p) (e :: es) [] pos) (tD X.K cl E (mkX c [g, f] [0, 1] mA)) :=
  (pe_mkv (n := 2) O.oc O.iC O.tI F1 hr hb hp (by decide) (passN (CXh := rfl)) hg hm ha hdb he hpl).imp fun σ H Q ⟨W, ω, μ, S, env, rl, q⟩ =>
    ⟨W, ω, μ, S, env, rl, q.bind.mono fun xs S1 μ1 H1 ee s1 e1 q1 vs rs => by
      have hl := hn _ _ _ _ ee
      obtain ⟨x0, x1, rfl⟩ : ∃ x0 x1, xs = [x0, x1] := by
        match xs, hl with
        | [x0, x1], _ => exact ⟨x0, x1, rfl⟩
      cases rs with
      | @cons _ _ y _ r0 rn =>
        cases rn with
        | @cons _ _ y2 _ r1 rn =>
          cases rn
          exact ⟨rfl, fun a ha => xv2 s1 r0 r1 ha fun H2 z s2 e2 r2 => q1 μ1 H2 s2 e2 z r2⟩⟩
theorem de_mkx0 (O : Oe X.K (cl c) fI) (F1 : FnOk X.prog X.w X.K X.mg X.base (L2.CX X.prog X.w) k fI fd ps (spX0 (cl c))) (hr : Room (k + 1) X.A) (hb : Binds X.K fd ps []) (hp : ps.length = 1) (hg : Gl X x) (hm : X.mg x = some (.ref (cl c)))
    (hdb : (x == ("__debug__" : Str)) = false := by decide) : PE X (.Call (.Name x p) [] [] pos) (tD X.K cl E (mkX c [] [] nilA)) :=
  (pe_mkv0 O.oc O.iC O.tI F1 hr hb hp (passN (CXh := rfl)) hg hm hdb).imp fun σ H Q ⟨W, ω, μ, S, env, rl, q⟩ =>
    ⟨rfl, fun a ha => xv0 rl.sim ha fun H2 z s2 e2 r2 => q μ H2 s2 e2 z r2⟩
theorem de_mkx1K (O : Oe X.K (cl c) fI) (F1 : FnOk X.prog X.w X.K X.mg X.base (L2.CX X.prog X.w) k fI fd ps (spX1 (cl c) f)) (hr : Room (k + 1) X.A) (hb : KBn X.K fd ps 1 ks (fun us ws => us ++ pick [0] ws) (fun vs zs => vs ++ pick [0] zs)) (hk : ks.length = 1) (hg : Gl X x) (hm : X.mg x = some (.ref (cl c))) (ha : PK X kws (tDA X.K cl E mA)) (hn : LenA mA 1)
    (hall : (backToKw pos (keywordEach kws X.env)).all (·.1.isSome) = true := by rfl) (hks : (backToKw pos (keywordEach kws X.env)).filterMap (·.1) = ks := by rfl) (hdb : (x == ("__debug__" : Str)) = false := by decide)
    (hpl : ((backTo pos (starEach [] X.env)).any (·.1) || (backToKw pos (keywordEach kws X.env)).any (·.1.isNone)) = false := by rfl) :
    PE X (.Call (.Name x p) [] kws pos) (tD X.K cl E (mkX c [f] [0] mA)) :=
  (pe_mkvK O.oc O.iC O.tI F1 hr hb (passN (CXh := rfl)) hg hm ha hall hks hdb hpl).imp fun σ H Q ⟨W, ω, μ, S, env, rl, q⟩ =>
    ⟨W, ω, μ, S, env, rl, q.bind.mono fun xs S1 μ1 H1 ee s1 e1 q1 vs rs => by
      have hl := hn _ _ _ _ ee
      obtain ⟨x0, rfl⟩ : ∃ x0, xs = [x0] := by
        match xs, hl with
        | [x0], _ => exact ⟨x0, rfl⟩
      cases rs with
      | @cons _ _ y _ r0 rn =>
        cases rn
        exact ⟨hk.symm, fun a ha => xv1 s1 r0 ha fun H2 z s2 e2 r2 => q1 μ1 H2 s2 e2 z r2⟩⟩
/-- two fields, the keywords the other way round -/
theorem de_mkx2K (O : Oe X.K (cl c) fI) (F1 : FnOk X.prog X.w X.K X.mg X.base (L2.CX X.prog X.w) k fI fd ps (spX2 (cl c) f g)) (hr : Room (k + 1) X.A) (hb : KBn X.K fd ps 1 ks (fun us ws => us ++ pick [1, 0] ws) (fun vs zs => vs ++ pick [1, 0] zs)) (hk : ks.length = 2) (hg : Gl X x) (hm : X.mg x = some (.ref (cl c))) (ha : PK X kws (tDA X.K cl E mA)) (hn : LenA mA 2)
    (hall : (backToKw pos (keywordEach kws X.env)).all (·.1.isSome) = true := by rfl) (hks : (backToKw pos (keywordEach kws X.env)).filterMap (·.1) = ks := by rfl) (hdb : (x == ("__debug__" : Str)) = false := by decide)
    (hpl : ((backTo pos (starEach [] X.env)).any (·.1) || (backToKw pos (keywordEach kws X.env)).any (·.1.isNone)) = false := by rfl) :
    PE X (.Call (.Name x p) [] kws pos) (tD X.K cl E (mkX c [g, f] [1, 0] mA)) :=
  (pe_mkvK O.oc O.iC O.tI F1 hr hb (passN (CXh := rfl)) hg hm ha hall hks hdb hpl).imp fun σ H Q ⟨W, ω, μ, S, env, rl, q⟩ =>
    ⟨W, ω, μ, S, env, rl, q.bind.mono fun xs S1 μ1 H1 ee s1 e1 q1 vs rs => by
      have hl := hn _ _ _ _ ee
      obtain ⟨x0, x1, rfl⟩ : ∃ x0 x1, xs = [x0, x1] := by
        match xs, hl with
        | [x0, x1], _ => exact ⟨x0, x1, rfl⟩
      cases rs with
      | @cons _ _ y _ r0 rn =>
        cases rn with
        | @cons _ _ y2 _ r1 rn =>
          cases rn
          exact ⟨hk.symm, fun a ha => xv2 s1 r1 r0 ha fun H2 z s2 e2 r2 => q1 μ1 H2 s2 e2 z r2⟩⟩
/-- e.f, e an exception of the class number c -/
def xfM (c : Nat) (f : Str) (m : EM) : EM := fun env S => (m env S).bind fun x S1 => match x with
  | .exn d ns xs => if d = c then (match fGet ns xs f with | some y => .ok y S1 | none => .bad) else .bad
  | _ => .bad
theorem de_xf (T : XfC X.K (cl c)) (hno : PySem.W.findIn X.K (.ref (cl c)) f = some none) (he : PE X e (tD X.K cl E m)) (hb : attributeBase e f X.env (eval e X.env) = eval e X.env := by rfl) : PE X (.Attribute e f pos) (tD X.K cl E (xfM c f m)) :=
  (pe_xv T hno he hb).imp fun σ H Q ⟨W, ω, μ, S, env, rl, q⟩ => ⟨W, ω, μ, S, env, rl, q.bind.mono fun x S1 μ1 H1 ee s1 e1 q1 v rv => by
    cases rv with
    | @exn d ns xs a dx fs h1 n1 h2 n2 e rs =>
      dsimp only at q1
      split at q1
      · rename_i hd
        subst hd
        subst e
        cases hf : fGet (fs.map (·.1)) xs f with
        | none => rw [hf] at q1; exact q1.elim
        | some y =>
          rw [hf] at q1
          obtain ⟨v, l, r⟩ := (fGet_ok rs).1 y hf
          exact ⟨a, dx, fs, v, rfl, h1, h2, l, q1 μ1 H1 s1 Ext.refl v r⟩
      · exact q1.elim
    | @exz d a h1 n1 =>
      dsimp only at q1
      split at q1
      · exact q1.elim
      · exact q1.elim
    | _ => exact q1.elim⟩
/-- isinstance(e, C), e an exception: by its class -/
def isX (t : Nat → Option Bool) (m : EM) : EM := fun env S => (m env S).bind fun x S1 => match x with
  | .exn d _ _ => (match t d with | some b => .ok (.bl b) S1 | none => .bad)
  | _ => .bad
theorem de_isx {t : Nat → Option Bool} {ce : Expr} {cv : V} {u : Value} (he : PE X e (tD X.K cl E m)) (hc : PE X ce (tC cv)) (hu : ClsV cv u) (hg : Gl X "isinstance") (hm : X.mg "isinstance" = none) (hv : bootBuiltins "isinstance" = some (.builtin "isinstance"))
    (h1 : ∀ d b, t d = some b → XiC X.K (cl d) ∧ PySem.W.kitOne X.K (.ref (cl d)) u = some b)
    (hs : starEach [e, ce] X.env = (false, eval e X.env) :: starEach [ce] X.env := by rfl) (hs2 : starEach [ce] X.env = [(false, eval ce X.env)] := by rfl) (hpl : (backTo pos (starEach [ce] X.env)).any (·.1) = false := by rfl) : PE X (.Call (.Name "isinstance" p) [e, ce] [] pos) (tD X.K cl E (isX t m)) :=
  (pe_callB call_isV hg hm hv (pa_cons he (pa_cons hc pa_nil hs2) hs) (by decide) (by decide) hs hpl).imp fun σ H Q ⟨W, ω, μ, S, env, rl, q⟩ => ⟨W, ω, μ, S, env, rl, q.bind.mono fun x S1 μ1 H1 _ s1 e1 q1 v rv => by
    show rIsV X.K [v, cv] H1 Q
    cases rv with
    | @exn d ns xs a dx fs g1 n1 g2 n2 e rs =>
      dsimp only at q1
      cases ht : t d with
      | none => rw [ht] at q1; exact q1.elim
      | some b =>
        rw [ht] at q1
        obtain ⟨k1, k2⟩ := h1 d b ht
        exact ⟨a, cl d, some dx, cv, u, b, rfl, hu, k1, g1, fun y hy => ⟨fs, by cases hy; exact g2⟩, k2, q1 μ1 H1 s1 Ext.refl _ (.bl b)⟩
    | @exz d a g1 n1 =>
      dsimp only at q1
      cases ht : t d with
      | none => rw [ht] at q1; exact q1.elim
      | some b =>
        rw [ht] at q1
        obtain ⟨k1, k2⟩ := h1 d b ht
        exact ⟨a, cl d, none, cv, u, b, rfl, hu, k1, g1, (fun y hy => nomatch hy), k2, q1 μ1 H1 s1 Ext.refl _ (.bl b)⟩
    | _ => exact q1.elim⟩
/-- isinstance(ValueError(".."), C) -/
theorem de_isb {z : Str} {ce : Expr} {cv : V} {u : Value} {b : Bool} {j : Nat} {p2 p3 p4 : Pos} (hgV : Gl X "ValueError") (hmV : X.mg "ValueError" = none) (hvV : bootBuiltins "ValueError" = some (.type "ValueError")) (hc : PE X ce (tC cv)) (hu : ClsV cv u) (hg : Gl X "isinstance") (hm : X.mg "isinstance" = none) (hv : bootBuiltins "isinstance" = some (.builtin "isinstance"))
    (hk : PySem.W.kitOne X.K (.type "ValueError") u = some b)
    (hs : starEach [.Call (.Name "ValueError" p2) [.Constant (.str z) j p3] [] p4, ce] X.env = (false, eval (.Call (.Name "ValueError" p2) [.Constant (.str z) j p3] [] p4) X.env) :: starEach [ce] X.env := by rfl) (hs2 : starEach [ce] X.env = [(false, eval ce X.env)] := by rfl) (hpl : (backTo pos (starEach [ce] X.env)).any (·.1) = false := by rfl) :
    PE X (.Call (.Name "isinstance" p) [.Call (.Name "ValueError" p2) [.Constant (.str z) j p3] [] p4, ce] [] pos) (tD X.K cl E (cM (.bl b))) :=
  (pe_callB (call_isB (T := "ValueError") PySem.F.excAttr_ValueError PySem.F.lkClass_ValueError PySem.F.soClass_ValueError (by decide +kernel)) hg hm hv (pa_cons (pe_exB exb_ValueError hgV hmV hvV (pa_cons pe_str pa_nil)) (pa_cons hc pa_nil hs2) hs) (by decide) (by decide) hs hpl).imp fun σ H Q ⟨W, ω, μ, S, env, rl, q⟩ =>
    ⟨by show 1 ≤ sizeLine; rw [sizeLine_eq]; omega, fun a ha => ⟨a, cv, u, b, rfl, hu, upd_same, hk, q μ _ (rl.sim.fresh ha) (Ext.fresh ha) _ (.bl b)⟩⟩
end
end Dm
/-! ### plain tools -/
namespace Dm
open PySem PySem.Spec L2
section
variable {env : List Sv} {S : Sto} {m : EM} {A : AM} {Q : Vl → Sto → Prop} {c : Nat} {ns : List Str} {ix : List Nat} {f : Str} {t : Nat → Option Bool} {x y : Vl}
theorem w_mkx (h : Ret (A env S) fun xs S1 => Q (.exn c ns (pick ix xs).reverse) S1) : Ret (mkX c ns ix A env S) Q := h.bind fun xs S1 h => ⟨_, _, rfl, h⟩
theorem w_isx (h : Ret (m env S) fun x S1 => ∃ d ns xs b, x = .exn d ns xs ∧ t d = some b ∧ Q (.bl b) S1) : Ret (isX t m env S) Q := h.bind fun x S1 h => by
  obtain ⟨d, ns, xs, b, rfl, e, q⟩ := h
  dsimp only
  rw [e]
  exact ⟨_, _, rfl, q⟩
theorem f_neS (h : look S x = x) (hx : okD x = true) : neF S x x = some (.bl false) := by
  rw [f_ne (by rw [h]; exact hx) (by rw [h]; exact hx), h, eqv_self hx]
  rfl
end
end Dm

set_option Elab.async false
set_option linter.all false
set_option maxRecDepth 100000
set_option autoImplicit false
set_option maxHeartbeats 2000000
/-! DmTx: texts: str(n), int(s), sep.join(xs), s.split(sep); f(k = v, ..). -/
namespace L2
open PySem PySem.Spec PyProof.Rows
section
variable {X : Cx} {CX : CXT} {k : Nat} {f : Addr} {fd : FuncData} {ps ks : List Str} {sp : Sp} {E : XK} {x : Str} {p pos : Pos} {kws : List Keyword} {tk : TA} {g : List Value → List Value → List Value} {gV : List V → List V → List V}
def tCallK0 (n : Nat) (sp : Sp) (gV : List V → List V → List V) (E : XK) (tk : TA) : TE := fun σ H Q => tk σ H fun zs H1 => zs.length = n ∧ sp (gV [] zs) H1 Q E
/-- f(k = v, ..) -/
theorem pe_callK0 (F : FnOk X.prog X.w X.K X.mg X.base CX k f fd ps sp) (hr : Room k X.A) (hg : Gl X x) (hm : X.mg x = some (.ref f)) (hk : PySem.W.keepIn X.K (.ref f) = true) (hb : KBn X.K fd ps 0 ks g gV) (hx : Passes CX X E)
    (hkw : PK X kws tk) (hall : (backToKw pos (keywordEach kws X.env)).all (·.1.isSome) = true := by rfl) (hks : (backToKw pos (keywordEach kws X.env)).filterMap (·.1) = ks := by rfl)
    (hdb : (x == ("__debug__" : Str)) = false := by decide) (hpl : ((backTo pos (starEach [] X.env)).any (·.1) || (backToKw pos (keywordEach kws X.env)).any (·.1.isNone)) = false := by rfl) :
    PE X (.Call (.Name x p) [] kws pos) (tCallK0 ks.length sp gV E tk) := by
  refine ⟨fun pins s σ H Q I h => ?_⟩
  refine wpAny_Call_Name_kw (ld_glob I hg hm ?_ hdb)
  refine PySem.W.callWith_KW0 (h₀ := X.base) I.ok.mod.kin hk hall ?_ hpl
  refine thn (hkw.run pos pins s σ H _ I h) fun ws s2 ⟨zs, H2, I2, rz, l2, q2⟩ => ⟨I2.kIn, ?_⟩
  rw [hks]
  have r2 := hb.rel (.nil : Vals [] []) rz
  refine wpAny_call (codeAny_mono (F.run X.A X.stack s2 H2 ⟨[], ks.zip ws⟩ (g [] ws) (gV [] zs) Q E hr I2.env0 (hb.to s2 [] ws I2.kIn rfl (rz.length.symm.trans l2)) r2 q2) fun r s' hq => ?_)
  cases r with
  | error e => exact hx pins σ H2 s2 e s' I2 hq
  | ok fl =>
    cases fl with
    | ret u => exact I2.after hq
    | next => exact False.elim hq
    | brk => exact False.elim hq
    | cont => exact False.elim hq
end
end L2
namespace Dm
open PySem PySem.Spec L2
/-! ### str(n), int(s) -/
def strF : FA := fun _ xs => match xs with
  | [.int i] => if i.natAbs.log2 < 1920 then some (.str (Str.ofString (toString i))) else none
  | _ => none
def intTF : FA := fun _ xs => match xs with
  | [.str a] => if a.length ≤ 640 then (intText? a).map .int else none
  | _ => none
section
variable {X : Cx} {cl : Cl} {E : XK}
theorem s_strN : OpA X cl (fun xs H Q => ∃ i : Int, xs = [.int i] ∧ i.natAbs.log2 < 1920 ∧ Q (.str (Str.ofString (toString i))) H) strF := fun W ω μ S H xs z vs Q s r h k => by
  unfold strF at h
  split at h
  · split at h
    · rename_i hz
      cases h
      obtain ⟨v, rfl, rv⟩ := repsL1 r
      rw [repL_int rv]
      exact ⟨_, rfl, hz, k H _ s Ext.refl (.str _)⟩
    · cases h
  · cases h
theorem s_intT : OpA X cl (fun xs H Q => ∃ a n, xs = [.str a] ∧ PySem.intText? a = some n ∧ a.length ≤ 640 ∧ Q (.int n) H) intTF := fun W ω μ S H xs z vs Q s r h k => by
  unfold intTF at h
  split at h
  · rename_i a
    split at h
    · rename_i hz
      obtain ⟨v, rfl, rv⟩ := repsL1 r
      obtain ⟨n, hn, rfl⟩ := Option.map_eq_some_iff.mp h
      rw [repL_str rv]
      exact ⟨a, n, rfl, hn, hz, k H _ s Ext.refl (.int n)⟩
    · cases h
  · cases h
/-! ### join, split -/
def strsV (S : Sto) (y : Vl) : Option (List Str) := match look S y with
  | .lst xs => strsOf xs
  | .tup xs => strsOf xs
  | _ => none
def joinF (S : Sto) (a : Str) (y : Vl) : Option Vl := (strsV S y).bind fun ys => if (ys.map (·.length)).sum + ys.length * a.length ≤ 16777216 then some (.str (Txt.join a ys)) else none
def joinM (o m : EM) : EM := fun env S => (o env S).bind fun x S1 => match x with
  | .str a => (m env S1).bind fun y S2 => match joinF S2 a y with
    | some v => .ok v S2
    | none => .bad
  | _ => .bad
def splF (a : Str) (y : Vl) : Option Vl := match y with
  | .str b => if (b.length == 0) = false ∧ a.length + 2 ≤ 16777216 then some (.lst ((Txt.split a b).map .str)) else none
  | _ => none
def splM (o m : EM) : EM := fun env S => (o env S).bind fun x S1 => match x with
  | .str a => (m env S1).bind fun y S2 => match splF a y with
    | some v => .ok v S2
    | none => .bad
  | _ => .bad
theorem reps_strs {K : PySem.W.Frag} {B : Addr → Prop} {μ : List Addr} {H : Hp} : ∀ ys : List Str, Reps K cl B μ H (ys.map .str) (ys.map V.str)
  | [] => .nil
  | y :: ys => .cons (.str y) (reps_strs ys)
variable {e a : Expr} {o m : EM}
theorem de_join (h : PE X e (tM1 (fun x xs H Q => ∃ a p, ∃ ys : List Str, x = .str a ∧ xs = [.ref p] ∧ (SqL X.K H p (ys.map V.str) ∨ SqT X.K H p (ys.map V.str)) ∧ (ys.map (·.length)).sum + ys.length * a.length ≤ 16777216 ∧ Q (.str (Txt.join a ys)) H) (tL X.K cl E o) (tL X.K cl E m))) :
    PE X e (tD X.K cl E (joinM o m)) := h.imp fun σ H Q ⟨W, ω, μ, S, env, rl, q⟩ => by
  refine ⟨W, ω, μ, S, env, rl, q.bind.mono fun x S1 μ1 H1 _ s1 e1 q1 v rv => ?_⟩
  cases x with
  | str a =>
    dsimp only at q1
    refine ⟨⟨a, repL_str rv⟩, ⟨W, ω, μ1, S1, env, rl.ext e1 s1, q1.bind.mono fun y S2 μ2 H2 _ s2 e2 q2 u ru => ?_⟩⟩
    cases hz : joinF S2 a y with
    | none => rw [hz] at q2; exact q2.elim
    | some z =>
      rw [hz] at q2
      have r2 := repR_of s2 ru
      unfold joinF strsV at hz
      revert hz r2
      generalize look S2 y = y2
      intro hz r2
      have fin : ∀ {xs : List Vl} {vs : List V} {p : Addr}, u = .ref p → (SqL X.K H2 p vs ∨ SqT X.K H2 p vs) → Reps X.K cl (Bn (Wo W ω) μ2) μ2 H2 xs vs → ((strsOf xs).bind fun ys => if (ys.map (·.length)).sum + ys.length * a.length ≤ 16777216 then some (Vl.str (Txt.join a ys)) else none) = some z →
          ∃ a p, ∃ ys : List Str, v = .str a ∧ [u] = [.ref p] ∧ (SqL X.K H2 p (ys.map V.str) ∨ SqT X.K H2 p (ys.map V.str)) ∧ (ys.map (·.length)).sum + ys.length * a.length ≤ 16777216 ∧ Q (.str (Txt.join a ys)) H2 := fun {xs vs p} eu hp rs hb => by
        obtain ⟨ys, h1, h2⟩ := Option.bind_eq_some_iff.mp hb
        split at h2
        · rename_i hl
          cases h2
          have ev := strs_reps rs h1
          subst ev
          exact ⟨a, p, ys, repL_str rv, by rw [eu], hp, hl, q2 μ2 H2 s2 Ext.refl _ (.str _)⟩
        · cases h2
      cases y2 with
      | lst xs =>
        obtain ⟨p, vs, e3, h1, h2⟩ := repR_lst r2
        exact fin e3 (.inl (.of h1)) h2 hz
      | tup xs =>
        obtain ⟨p, vs, e3, h1, _, h2⟩ := repR_tup r2
        exact fin e3 (.inr (.of h1)) h2 hz
      | _ => cases hz
  | _ => exact q1.elim
theorem dn_spl (h : PE X e (tM1 (fun x xs H Q => ∃ a b, x = .str a ∧ xs = [.str b] ∧ (b.length == 0) = false ∧ a.length + 2 ≤ sizeLine ∧ rNewStrs (Txt.split a b) H Q) (tL X.K cl E o) (tL X.K cl E m))) :
    PE X e (tN X.K cl E (splM o m)) := h.imp fun σ H Q ⟨W, ω, μ, S, env, rl, q⟩ => by
  refine ⟨W, ω, μ, S, env, rl, q.bind.mono fun x S1 μ1 H1 _ s1 e1 q1 v rv => ?_⟩
  cases x with
  | str a =>
    dsimp only at q1
    refine ⟨⟨a, repL_str rv⟩, ⟨W, ω, μ1, S1, env, rl.ext e1 s1, q1.bind.mono fun y S2 μ2 H2 _ s2 e2 q2 u ru => ?_⟩⟩
    cases hz : splF a y with
    | none => rw [hz] at q2; exact q2.elim
    | some z =>
      rw [hz] at q2
      cases y with
      | str w =>
        unfold splF at hz
        dsimp only at hz
        split at hz
        · rename_i hl
          cases hz
          refine ⟨a, w, repL_str rv, by rw [repL_str ru], hl.1, by rw [sizeLine_eq]; exact hl.2, fun p hp => ?_⟩
          exact q2 μ2 _ (s2.fresh hp) (Ext.fresh hp) p (fresh_back e1 (fresh_back e2 hp)) (s2.freshBan hp fun z => s2.tracked (.inl z) hp) (.lst upd_same (reps_strs _))
        · cases hz
      | _ => cases hz
  | _ => exact q1.elim
/-! ### f(k = v, ..) -/
def callKM (f : List Vl → Sto → Res Vl) (ix : List Nat) (a : AM) : EM := fun env S => (a env S).bind fun xs S1 => f (pick ix xs) S1
variable {k n : Nat} {g : Addr} {fd : FuncData} {ps ks : List Str} {f : List Vl → Sto → Res Vl} {x : Str} {mA : AM} {p pos : Pos}
theorem d_callK {ix : List Nat} {kws : List Keyword} (F : FnOk X.prog X.w X.K X.mg X.base (L2.CX X.prog X.w) k g fd ps (spM X.K cl n f)) (hr : Room k X.A) (hg : Gl X x) (hm : X.mg x = some (.ref g)) (hk : PySem.W.keepIn X.K (.ref g) = true) (hb : KBn X.K fd ps 0 ks (fun us ws => us ++ pick ix ws) (fun vs zs => vs ++ pick ix zs)) (hx : Passes (L2.CX X.prog X.w) X E)
    (ha : PK X kws (tDA X.K cl E mA)) (hn : LenA mA ks.length) (hi : ∀ xs : List Vl, xs.length = ks.length → (pick ix xs).length = n)
    (hall : (backToKw pos (keywordEach kws X.env)).all (·.1.isSome) = true := by rfl) (hks : (backToKw pos (keywordEach kws X.env)).filterMap (·.1) = ks := by rfl) (hdb : (x == ("__debug__" : Str)) = false := by decide)
    (hpl : ((backTo pos (starEach [] X.env)).any (·.1) || (backToKw pos (keywordEach kws X.env)).any (·.1.isNone)) = false := by rfl) : PE X (.Call (.Name x p) [] kws pos) (tD X.K cl E (callKM f ix mA)) :=
  (pe_callK0 F hr hg hm hk hb hx ha hall hks hdb hpl).imp fun σ H Q ⟨W, ω, μ, S, env, rl, q⟩ =>
    ⟨W, ω, μ, S, env, rl, q.bind.mono fun xs S1 μ1 H1 ee s1 e1 q1 vs rs => ⟨by rw [← rs.length]; exact hn _ _ _ _ ee, by
      show spM X.K cl n f ([] ++ pick ix vs) H1 Q E
      rw [List.nil_append]
      exact sat_call s1 (pick_reps rs ix) (hi _ (hn _ _ _ _ ee)) q1⟩⟩
end
/-! ### plain tools -/
section
variable {env : List Sv} {S : Sto} {o m : EM} {A : AM} {Q : Vl → Sto → Prop} {f : List Vl → Sto → Res Vl} {ix : List Nat}
theorem w_callK (h : Ret (A env S) fun xs S1 => Ret (f (pick ix xs) S1) Q) : Ret (callKM f ix A env S) Q := h.bind fun xs S1 h => h
theorem w_join (h : Ret (o env S) fun x S1 => ∃ a, x = .str a ∧ Ret (m env S1) fun y S2 => ∃ v, joinF S2 a y = some v ∧ Q v S2) : Ret (joinM o m env S) Q := h.bind fun x S1 h => by
  obtain ⟨a, rfl, h⟩ := h
  exact h.bind fun _ _ h => w_op h
theorem w_spl (h : Ret (o env S) fun x S1 => ∃ a, x = .str a ∧ Ret (m env S1) fun y S2 => ∃ v, splF a y = some v ∧ Q v S2) : Ret (splM o m env S) Q := h.bind fun x S1 h => by
  obtain ⟨a, rfl, h⟩ := h
  exact h.bind fun _ _ h => w_op h
theorem strsOf_map : ∀ ys : List Str, strsOf (ys.map .str) = some ys
  | [] => rfl
  | y :: ys => by
    show (strsOf (ys.map .str)).map (y :: ·) = _
    rw [strsOf_map ys]
    rfl
theorem f_join {a : Str} {ys : List Str} (h : (ys.map (·.length)).sum + ys.length * a.length ≤ 16777216) : joinF S a (.lst (ys.map .str)) = some (.str (Txt.join a ys)) := by
  show (strsOf (ys.map .str)).bind _ = _
  rw [strsOf_map]
  exact if_pos h
theorem f_spl {a b : Str} (h : (b.length == 0) = false ∧ a.length + 2 ≤ 16777216) : splF a (.str b) = some (.lst ((Txt.split a b).map .str)) := if_pos h
theorem f_strN {i : Int} (h : i.natAbs.log2 < 1920) : strF S [.int i] = some (.str (Str.ofString (toString i))) := if_pos h
theorem f_intT {a : Str} {n : Int} (h : a.length ≤ 640) (e : intText? a = some n) : intTF S [.str a] = some (.int n) := by
  show (if a.length ≤ 640 then (intText? a).map Vl.int else none) = _
  rw [if_pos h, e]
  rfl
end
end Dm

set_option Elab.async false
set_option linter.all false
set_option maxRecDepth 100000
set_option autoImplicit false
set_option maxHeartbeats 1000000
/-! DmWh: while; shared lists popped; shared dicts read and stored; sorted(d); any of ints; &; displays of dicts. -/
namespace Dm
open PySem PySem.Spec L2
/-! ### while -/
def whileS (tt : TM) (b : SM) : Nat → SM
  | 0 => fun _ _ => .bad
  | n + 1 => fun env S => (tt env S).bind fun c S1 => if c then (b env S1).bind fun fl S2 => (match fl with
      | .nx env2 => whileS tt b n env2 S2
      | .ct env2 => whileS tt b n env2 S2
      | .bk env2 => .ok (.nx env2) S2
      | .rt y => .ok (.rt y) S2) else .ok (.nx env) S1
section
variable {X : Cx} {cl : Cl} {E : XK} {pos : Pos}
theorem ds_while {c : Expr} {body : List Stmt} {tt : TM} {b : SM} (n : Nat) (hp : PassesOwn (model X.prog X.w) X.A X.env X.xe) (hc : PT X c (tDT X.K cl E tt)) (hb : PSs X body (tS X.K cl E b)) : PS X (.While c body [] pos) (tS X.K cl E (whileS tt b n)) :=
  (ps_while hp hc hb).imp fun D σ H ⟨W, ω, μ, S, env, rl, q⟩ => by
  refine ⟨fun m σ' H' => ∃ ω' μ' S' env', Rl X.K cl W ω' μ' S' env' σ' H' ∧ SatF X.K cl W ω' μ' H' (whileS tt b m env' S') D E, ⟨n, ω, μ, S, env, rl, q⟩, ?_⟩
  rintro m σ' H' ⟨ω', μ', S', env', r', q'⟩
  cases m with
  | zero => exact q'.elim
  | succ m =>
    refine ⟨W, ω', μ', S', env', r', (SatF.ofG (r := tt env' S') q').mono fun k S1 μ1 H1 _ s1 e1 q1 => ?_⟩
    have r1 := r'.ext e1 s1
    cases k with
    | false =>
      rw [if_neg Bool.false_ne_true] at q1
      dsimp only
      rw [if_neg Bool.false_ne_true]
      exact q1 ω' μ1 σ' H1 r1 ExtS.refl
    | true =>
      rw [if_pos rfl] at q1
      dsimp only
      rw [if_pos rfl]
      refine ⟨fun σ2 H2 => ∃ ω2 μ2 S2 env2, Rl X.K cl W ω2 μ2 S2 env2 σ2 H2 ∧ SatF X.K cl W ω2 μ2 H2 (whileS tt b m env2 S2) D E, fun σ2 H2 p => ⟨m, Nat.lt_succ_self m, p⟩, W, ω', μ1, S1, env', r1, ?_⟩
      revert q1
      generalize b env' S1 = r
      intro q1
      cases r with
      | bad => exact q1
      | exc c ns ys S2 => exact fun μ3 H3 d s3 e3 x3 => q1 μ3 H3 d s3 e3 x3
      | ok fl S2 =>
        cases fl with
        | nx env2 => exact fun ω3 μ3 σ3 H3 r3 e3 => ⟨ω3, μ3, S2, env2, r3, SatF.step (r := whileS tt b m env2 S2) q1 e3⟩
        | ct env2 => exact fun ω3 μ3 σ3 H3 r3 e3 => ⟨ω3, μ3, S2, env2, r3, SatF.step (r := whileS tt b m env2 S2) q1 e3⟩
        | bk env2 => exact fun ω3 μ3 σ3 H3 r3 e3 => q1 ω3 μ3 σ3 H3 r3 e3
        | rt y => exact fun μ3 H3 v3 s3 e3 r3 => q1 μ3 H3 v3 s3 e3 r3
end
/-! ### x.pop() of a shared list -/
def popE (i : Nat) : EM := fun env S => match env[i]? with
  | some (.v (.ref n)) => (match S[n]? with
    | some (.lst xs) => (match xs[xs.length - 1]? with
      | some y => .ok y (S.set n (.lst xs.dropLast))
      | none => .bad)
    | _ => .bad)
  | _ => .bad
section
variable {X : Cx} {cl : Cl} {E : XK} {e : Expr} {i : Nat}
theorem reps_dropLast {K : PySem.W.Frag} {B : Addr → Prop} {μ : List Addr} {H : Hp} {xs : List Vl} {vs : List V} (r : Reps K cl B μ H xs vs) : Reps K cl B μ H xs.dropLast vs.dropLast := by
  rw [List.dropLast_eq_take, List.dropLast_eq_take, r.length]
  exact r.take _
theorem de_popE (h : PE X e (tBM0 X.K "list" rPop (tVar i))) : PE X e (tD X.K cl E (popE i)) := h.imp fun σ H Q ⟨W, ω, μ, S, env, rl, q⟩ => by
  unfold popE at q
  split at q
  · rename_i n he
    split at q
    · rename_i xs hs
      split at q
      · rename_i y hy
        obtain ⟨o, sv, h1, h2, _, v0, h4, h5⟩ := rl.slot he
        subst h4
        cases h5 with
        | @ref _ a hn =>
          obtain ⟨b, g1, g2⟩ := rl.sim.obs n _ hs
          rw [hn] at g1
          cases g1
          cases g2 with
          | @lst _ vs g2 g3 =>
            obtain ⟨u, hu, ru⟩ := g3.get hy
            obtain ⟨s2, e2⟩ := rl.sim.upd hn (y := .lst xs.dropLast) (o := .lst vs.dropLast) (.lst (reps_dropLast g3))
            exact ⟨.ref a, h2, .inl ⟨rfl, vs, .of g2⟩, a, vs, u, rfl, rfl, g2, by rw [← g3.length]; exact hu, q μ _ s2 e2 u (ru.mono e2.kp)⟩
      · exact q.elim
    · exact q.elim
  · exact q.elim
/-! ### o[k] = v, o a shared dict -/
def setDR (mo mi mv : EM) : SM := fun env S => (mv env S).bind fun x S1 => (mo env S1).bind fun o S2 => (mi env S2).bind fun j S3 => match o with
  | .ref n => (match S3[n]? with
    | some (.dk ks xs) => (match keyV j with
      | some k => if ks.length < 16777216 then .ok (.nx env) (S3.set n (.dk (putV ks xs k x).1 (putV ks xs k x).2)) else .bad
      | none => .bad)
    | _ => .bad)
  | _ => .bad
theorem ds_setDR {st : Stmt} {mo mi mv : EM} {tv to ti : TE} (h : PS X st (tAsg tv (gSub to ti rSetD))) (hv : ∀ σ H Q, tD X.K cl E mv σ H Q → tv σ H Q) (ho : ∀ σ H Q, tD X.K cl E mo σ H Q → to σ H Q) (hi : ∀ σ H Q, tD X.K cl E mi σ H Q → ti σ H Q) : PS X st (tS X.K cl E (setDR mo mi mv)) := h.imp fun D σ H ⟨W, ω, μ, S, env, rl, q⟩ => by
  refine hv _ _ _ ⟨W, ω, μ, S, env, rl, q.ofG.mono fun x S1 μ1 H1 _ s1 e1 q1 v rv => ?_⟩
  refine ho _ _ _ ⟨W, ω, μ1, S1, env, rl.ext e1 s1, q1.ofG.mono fun o S2 μ2 H2 _ s2 e2 q2 w rw' => ?_⟩
  refine hi _ _ _ ⟨W, ω, μ2, S2, env, (rl.ext e1 s1).ext e2 s2, q2.ofG.mono fun j S3 μ3 H3 _ s3 e3 q3 u ru => ?_⟩
  cases o with
  | ref n =>
    dsimp only at q3
    cases hx : S3[n]? with
    | none => rw [hx] at q3; exact q3.elim
    | some y =>
      rw [hx] at q3
      cases y with
      | dk ks xs =>
        dsimp only at q3
        cases hk : keyV j with
        | none => rw [hk] at q3; exact q3.elim
        | some k =>
          rw [hk] at q3
          dsimp only at q3
          split at q3
          · rename_i hl
            obtain ⟨a, g1, g2⟩ := s3.obs n _ hx
            cases g2 with
            | @dk _ _ kvs g2 g4 g3 =>
              subst g4
              have rw3 := rw'.mono e3.kp
              cases rw3 with
              | ref hn =>
                rw [g1] at hn
                cases hn
                obtain ⟨p1, p2⟩ := putV_ok (k := k) ((rv.mono e2.kp).mono e3.kp) g3
                obtain ⟨s4, e4⟩ := s3.upd g1 (y := .dk (putV (kvs.map (·.1)) xs k x).1 (putV (kvs.map (·.1)) xs k x).2) (o := .dK (putK kvs k v)) (.dk p1 p2)
                have hlen : kvs.length < sizeLine := by
                  rw [sizeLine_eq, ← List.length_map (f := (·.1))]
                  exact hl
                refine ⟨a, _, rfl, ?_, q3 ω μ3 σ _ ((((rl.ext e1 s1).ext e2 s2).ext e3 s3).ext e4 s4) e4.s⟩
                rw [keyV_kV hk ru]
                exact DPut.k g2 hlen
          · exact q3.elim
      | _ => exact q3.elim
  | _ => exact q3.elim
/-! ### o.get(k), o a dict -/
def getM (ma mb : EM) : EM := fun env S => (ma env S).bind fun x S1 => match look S1 x with
  | .dk _ _ => (mb env S1).bind fun y S2 => (match look S2 x with
    | .dk ks xs => (match keyV y with
      | some k => .ok ((dkGet ks xs k).getD .non) S2
      | none => .bad)
    | _ => .bad)
  | _ => .bad
theorem de_getM {ma mb : EM} (h : PE X e (tDGet1 (tL X.K cl E ma) (tD X.K cl E mb))) : PE X e (tD X.K cl E (getM ma mb)) := h.imp fun σ H Q ⟨W, ω, μ, S, env, rl, q⟩ => by
  refine ⟨W, ω, μ, S, env, rl, q.bind.mono fun x S1 μ1 H1 _ s1 e1 q1 v rv => ?_⟩
  have r1 := repR_of s1 rv
  revert q1 r1
  generalize hx : look S1 x = x'
  intro q1 r1
  cases x' with
  | dk ks0 xs0 =>
    obtain ⟨p, kvs0, rfl, h2, _, _⟩ := repR_dk r1
    refine ⟨p, rfl, .inl ⟨kvs0, .of h2⟩, ⟨W, ω, μ1, S1, env, rl.ext e1 s1, SatG.mono (SatG.bind q1) fun y S2 μ2 H2 _ s2 e2 q2 u ru => ?_⟩⟩
    have r2 := repR_of s2 (RepL.mono s1 e2 rv)
    revert q2 r2
    generalize look S2 x = x2
    intro q2 r2
    cases x2 with
    | dk ks xs =>
      dsimp only at q2
      cases hk : keyV y with
      | none => rw [hk] at q2; exact q2.elim
      | some k =>
        rw [hk] at q2
        obtain ⟨p', kvs, e4, h4, h5, h6⟩ := repR_dk r2
        cases e4
        refine ⟨valV kvs k, ?_, ?_⟩
        · rw [keyV_kV hk ru]
          exact .k h4
        · obtain ⟨d1, d2⟩ := dkGet_val (k := k) h5 h6
          refine q2 μ2 H2 s2 Ext.refl _ ?_
          cases hg : dkGet ks xs k with
          | none => rw [d2 hg]; exact .non
          | some z =>
            obtain ⟨w, w1, w2⟩ := d1 z hg
            rw [w1]
            exact w2
    | _ => exact q2.elim
  | _ => exact q1.elim
end
/-! ### x & y -/
def andF : F2 := fun _ x y => match x, y with
  | .int i, .int j => some (.int (Builtin.bitAnd i j))
  | _, _ => none
theorem s_and {X : Cx} {cl : Cl} : Op2 X cl (rI0 fun i j => .int (Builtin.bitAnd i j)) andF := fun W ω μ S H x y z v u Q s rx ry h k => by
  unfold andF at h
  split at h
  · cases h
    exact ⟨_, _, repL_int rx, repL_int ry, k H _ s Ext.refl (.int _)⟩
  · cases h
/-! ### sorted(d) of int keys -/
def intKs : List Key → Option (List Int)
  | [] => some []
  | .inl i :: ks => (intKs ks).map (i :: ·)
  | _ => none
def insI (x : Int) : List Int → List Int
  | [] => [x]
  | y :: ys => if x ≤ y then x :: y :: ys else y :: insI x ys
def isort : List Int → List Int
  | [] => []
  | x :: xs => insI x (isort xs)
theorem insI_perm (x : Int) : ∀ ys : List Int, (insI x ys).Perm (x :: ys)
  | [] => .refl _
  | y :: ys => by
    unfold insI
    split
    · exact .refl _
    · exact ((insI_perm x ys).cons y).trans (.swap x y ys)
theorem isort_perm : ∀ xs : List Int, (isort xs).Perm xs
  | [] => .refl _
  | x :: xs => (insI_perm x (isort xs)).trans ((isort_perm xs).cons x)
theorem insI_sorted (x : Int) : ∀ ys : List Int, ys.Pairwise (· ≤ ·) → (insI x ys).Pairwise (· ≤ ·)
  | [], _ => by unfold insI; simp
  | y :: ys, h => by
    unfold insI
    cases h with
    | cons h1 h2 =>
      split
      · rename_i hxy
        exact .cons (fun z hz => by
          rcases List.mem_cons.mp hz with hz | hz
          · rw [hz]; exact hxy
          · exact Int.le_trans hxy (h1 z hz)) (.cons h1 h2)
      · rename_i hxy
        refine .cons (fun z hz => ?_) (insI_sorted x ys h2)
        rcases List.mem_cons.mp ((insI_perm x ys).mem_iff.mp hz) with hz | hz
        · rw [hz]; omega
        · exact h1 z hz
theorem isort_sorted : ∀ xs : List Int, (isort xs).Pairwise (· ≤ ·)
  | [] => .nil
  | x :: xs => insI_sorted x _ (isort_sorted xs)
theorem sorted_uniq : ∀ {xs ys : List Int}, xs.Perm ys → xs.Pairwise (· ≤ ·) → ys.Pairwise (· ≤ ·) → xs = ys
  | [], ys, h, _, _ => (List.perm_nil.mp h.symm).symm
  | x :: xs, [], h, _, _ => absurd (List.perm_nil.mp h) (by simp)
  | x :: xs, y :: ys, h, .cons a1 a2, .cons b1 b2 => by
    have e : x = y := by
      rcases List.mem_cons.mp (h.mem_iff.mp (List.mem_cons_self ..)) with z | z
      · exact z
      · rcases List.mem_cons.mp (h.mem_iff.mpr (List.mem_cons_self ..)) with w | w
        · exact w.symm
        · exact Int.le_antisymm (a1 y w) (b1 x z)
    subst e
    rw [sorted_uniq (List.Perm.cons_inv h) a2 b2]
def sortDF : FA := fun S xs => match xs with
  | [x] => (match look S x with
    | .dk ks _ => (match intKs ks with
      | some is => if is.length < 64 then some (.lst ((isort is).map .int)) else none
      | none => none)
    | _ => none)
  | _ => none
theorem intKs_ok : ∀ {ks : List Key} {is : List Int}, intKs ks = some is → ks = is.map Sum.inl
  | [], is, h => by cases h; rfl
  | .inl i :: ks, is, h => by
    unfold intKs at h
    obtain ⟨t, ht, rfl⟩ := Option.map_eq_some_iff.mp h
    rw [intKs_ok ht, List.map_cons]
  | .inr z :: ks, is, h => by cases h
theorem s_sortD {X : Cx} {cl : Cl} : OpAN X cl (fun xs H Q => ∃ (a : Addr) (kvs : List (Key × V)) (ks : List Int), xs = [.ref a] ∧ Rd H a (.dK kvs) ∧ kvs.map (·.1) = ks.map Sum.inl ∧ ks.length < 64 ∧
    ∀ (ys : List Int) (p : Addr), ys.Perm ks → ys.Pairwise (· ≤ ·) → H p = none → Q (.ref p) (upd H p (.lst (ys.map V.int)))) sortDF := fun W ω μ S H xs z vs Q s r h k => by
  unfold sortDF at h
  split at h
  · obtain ⟨v, rfl, rv⟩ := repsL1 r
    have rr := repR_of s rv
    revert h rr
    generalize look S _ = x'
    intro h rr
    cases x' with
    | dk ks ys =>
      dsimp only at h
      cases hi : intKs ks with
      | none => rw [hi] at h; cases h
      | some is =>
        rw [hi] at h
        dsimp only at h
        split at h
        · rename_i h64
          cases h
          obtain ⟨a, kvs, rfl, h1, h2, h3⟩ := repR_dk rr
          refine ⟨a, kvs, is, rfl, .of h1, h2.trans (intKs_ok hi), h64, fun ys p hp hs hpn => ?_⟩
          have e : ys = isort is := sorted_uniq (hp.trans (isort_perm is).symm) hs (isort_sorted is)
          rw [e]
          exact k p _ hpn (.lst (reps_ints _))
        · cases h
    | _ => cases h
  · cases h
/-! ### any(t), t a tuple of ints -/
theorem truth_ints {prog : Program} {w : World} {A : Around} {its : List Value} {ns : List Int} (e : Vals (ns.map V.int) its) :
    TruthOf prog w A (fun i v => its.toArray[i]? = some v) (fun i => ns.getD i 0 != 0) := fun i v s Q E hv hq => by
  have hv' : its[i]? = some v := by simpa using hv
  have hl := e.length
  rw [List.length_map] at hl
  have hn : ns[i]? = some (ns[i]'(by rw [hl]; exact (List.getElem?_eq_some_iff.mp hv').1)) := List.getElem?_eq_getElem _
  generalize ns[i]'(by rw [hl]; exact (List.getElem?_eq_some_iff.mp hv').1) = n at hn
  obtain ⟨y, hy, ry⟩ := e.get (i := i) (x := .int n) (by rw [List.getElem?_map, hn]; rfl)
  rw [hv'] at hy
  cases hy
  obtain ⟨t, rfl⟩ := ry
  have hg : ns.getD i 0 = n := by rw [List.getD_eq_getElem?_getD, hn]; rfl
  have hq' : Q (ns.getD i 0 != 0) s := hq
  rw [hg] at hq'
  exact PySem.P.truthy_int hq'
theorem any_rangeI : ∀ ns : List Int, (List.range ns.length).any (fun i => ns.getD i 0 != 0) = ns.any fun n => n != 0
  | [] => rfl
  | b :: bs => by
    rw [List.length_cons, List.range_succ_eq_map, List.any_cons, List.any_map, List.any_cons, ← any_rangeI bs]
    all_goals rfl
section
variable {X : Cx}
def rAnyI (K : PySem.W.Frag) : List V → Hp → VK → Prop := fun vs H Q => ∃ (a : Addr) (ns : List Int), vs = [V.ref a] ∧ SqT K H a (ns.map V.int) ∧ Q (.bl (ns.any fun n => n != 0)) H
theorem cr_anyI (hc : X.calm = true) : CallR X (.builtin "any") (rAnyI X.K) := by
  intro pins s σ H vs us Q I r h
  obtain ⟨a, ns, rfl, hs, q⟩ := h
  obtain ⟨its, rv, ht, _⟩ := I.tuple hs
  rw [Vals.ref1 r]
  refine call_any_walk (PyProof.Rows.iter_tuple ht ?_)
  have hlt : a < s.heap.objs.size := by obtain ⟨_, e, _⟩ := ht; exact Heap.lt_size e
  have ht' : s.heap.IsTuple a its.toArray := ht
  refine ⟨_, _, _, _, _, _, _, rfl, Walks.tuple (A := X.A.in1) (I.ok.hd hc) _ a (Nat.ne_of_lt hlt) its.toArray, ⟨⟨_, Heap.get?_push_size _ rfl, rfl, rfl⟩, ht'.at fun o e => Heap.get?_push_of_some _ e⟩, truth_ints rv, fun h' tk hk => ?_⟩
  refine ⟨.bl _, H, I.kept fun b o eo => hk b o (fun hmem => ?_) (Heap.get?_push_of_some _ eo), ?_, q⟩
  · rcases List.mem_cons.mp hmem with e1 | hmem
    · exact absurd (e1 ▸ Heap.lt_size eo) (Nat.lt_irrefl _)
    · cases hmem
  · show Value.bool _ = Value.bool _
    have hl := rv.length
    rw [List.length_map] at hl
    rw [← any_rangeI, List.size_toArray, ← hl]
end
def anyIF : FA := fun S xs => match xs with
  | [.tup ys] => (nums ys).map fun ns => .bl (ns.any fun n => n != 0)
  | _ => none
theorem s_anyI {X : Cx} {cl : Cl} : OpA X cl (rAnyI X.K) anyIF := fun W ω μ S H xs z vs Q s r h k => by
  unfold anyIF at h
  split at h
  · rename_i ys
    obtain ⟨v, rfl, rv⟩ := repsL1 r
    obtain ⟨ns, hn, rfl⟩ := Option.map_eq_some_iff.mp h
    rcases rv with rv | ⟨a, _, _, ra⟩
    · cases rv with
      | tup h1 h2 h3 =>
        rw [nums_rep h3 hn] at h1
        exact ⟨_, ns, rfl, .inl (.of h1), k H _ s Ext.refl (.bl _)⟩
    · cases ra
  · cases h
/-! ### for .. in e.items(), where e raises -/
def forX (m : EM) : SM := fun env S => (m env S).bind fun _ _ => .bad
section
variable {X : Cx} {cl : Cl} {E : XK} {e : Expr} {m : EM} {pos : Pos}
theorem ds_forX {elts : List Expr} {kk : Nat} {tpos apos cpos : Pos} {body : List Stmt} {g : TG} (hp : PassesOwn (model X.prog X.w) X.A X.env X.xe) (hc : X.calm = true) (he : PE X e (tD X.K cl E m)) (hg : PG X (.Tuple elts kk tpos) g)
    (hbase : attributeBase e "items" X.env (eval e X.env) = eval e X.env := by rfl) (hline : (apos.endLine == cpos.line) = true := by rfl)
    (hs : ∀ x, foldedSetIterable (.Call (.Attribute e "items" apos) [] [] cpos) X.env x = pure x := by intro _; rfl) : PS X (.For (.Tuple elts kk tpos) (.Call (.Attribute e "items" apos) [] [] cpos) body [] pos) (tS X.K cl E (forX m)) :=
  (ps_for hp hc (pi_items he hbase hline) hg pss_never hs).imp fun D σ H ⟨W, ω, μ, S, env, rl, q⟩ => ⟨W, ω, μ, S, env, rl, q.ofG.mono fun x S1 μ1 H1 _ s1 e1 q1 => q1.elim⟩
/-! ### displays of dicts: constants -/
theorem dn_dkI2 {i j a b : Int} {k1 k2 k3 k4 : Nat} {p1 p2 p3 p4 : Pos} (hij : i ≠ j) : PE X (.Dict [some (.Constant (.int i) k1 p1), some (.Constant (.int j) k2 p2)] [.Constant (.int a) k3 p3, .Constant (.int b) k4 p4] pos) (tN X.K cl E (cM (.dk [.inl i, .inl j] [.int a, .int b]))) :=
  (pe_disp (pps_cons pe_int pe_int (pps_cons pe_int pe_int pps_nil)) rfl rfl (by simp) (by simp)).imp fun σ H Q ⟨W, ω, μ, S, env, rl, q⟩ p hp => by
    refine ⟨upd_same, [(.inl i, .int a), (.inl j, .int b)], rfl, by simp, ?_⟩
    have e : upd (upd H p (.dK [])) p (.dK (mergeK [] [(.inl i, .int a), (.inl j, .int b)])) = upd H p (.dK [(.inl i, .int a), (.inl j, .int b)]) := by
      funext z
      unfold upd
      by_cases hz : z = p
      · simp [hz, mergeK, putK, hij]
      · simp [hz]
    rw [e]
    exact q μ _ (rl.sim.fresh hp) (Ext.fresh hp) p hp (rl.sim.freshBan hp fun z => rl.sim.tracked (.inl z) hp) (.dk upd_same rfl (.cons (.int a) (.cons (.int b) .nil)))
def tDispT (tk tv : TE) : TE := fun σ H Q => ∀ p, H p = none → tk σ (upd H p (.dT [])) fun x H1 => tv σ H1 fun y H2 => ∃ (ks : List Key) (b : Addr), x = .ref b ∧ H2 b = some (.tup (ks.map kV)) ∧ H2 p = some (.dT []) ∧ Q (.ref p) (upd H2 p (.dT [(ks, y)]))
theorem pe_dispT1 {k v : Expr} {tk tv : TE} (hu : X.A.units + 1 < cLine) (hk : PE X k tk) (hv : PE X v tv) : PE X (.Dict [some k] [v] pos) (tDispT tk tv) := by
  refine ⟨fun pins s σ H Q I q => ?_⟩
  have hn := I.hok.fresh (Nat.le_refl s.heap.objs.size)
  have I1 := I.laid (a := s.heap.objs.size) (o := .dT []) (h' := s.heap.push { cls := .type "dict", data := .dict #[] }) (t' := s.toks) (fun _ _ q => Heap.get?_push_of_some _ q) (Nat.le_refl _) (dt_empty s.heap I.big)
  refine wpAny_Dict_any rfl rfl (by simp) (by simp) (pairTrees_cons_walk (thn (hk.run pins _ σ _ _ I1 (q _ hn)) fun u s1 ⟨x, H1, I2, rx, q1⟩ => thn (hv.run pins s1 σ H1 _ I2 q1) fun w2 s2 ⟨y, H2, I3, ry, ks, b, ex, hb, hp, q2⟩ => pairTrees_nil_walk ?_))
  subst ex
  cases (show u = Value.ref b from rx)
  unfold storeAll
  rw [List.forIn_cons]
  obtain ⟨z, hd, xs, rel, dd⟩ := dt_of I3.hok hp
  have hl : (putK ([] : List (List Key × V)) ks y).length ≤ sizeLine := by have := length_putK ([] : List (List Key × V)) ks y; rw [sizeLine_eq]; simp at this; omega
  have hz : xs.length ≤ sizeLine := by rw [← Paired.length rel]; exact z
  refine wpAny_bind (wpAny_bind (wpAny_dictSet_heap (hsz := hz) (show (tupleKind (mixKind X.prog X.w)).room X.A from Nat.lt_of_succ_lt hu) (key_of I3.hok hb) dd fun h' dd' hs => wpAny_pure ?_))
  dsimp only
  rw [List.forIn_nil]
  obtain ⟨q', es, ep, hq, h2, h3, h4, _, h5⟩ := dd'
  have new : ObjOk X.prog X.w (upd H2 s.heap.objs.size (.dT (putK [] ks y))) h' s.heap.objs.size (.dT (putK [] ks y)) := ⟨hl, hd, _, (rel.put ks hb ry).keeps fun c ys ec => by
    rw [upd_ne (ne_of ec hp (fun z => nomatch z))]
    exact ec, q', es, ep, hq, h2, h3, h4, h5⟩
  exact wpAny_pure ⟨.ref s.heap.objs.size, _, d_write I3 (by rw [hp]; exact True.intro) hs ⟨q', hq⟩ new, rfl, q2⟩
/-- {t: v} with a constant value, t a tuple of ints and texts -/
def keyVs : List Vl → Option (List Key)
  | [] => some []
  | x :: xs => match keyV x, keyVs xs with
    | some k, some ks => some (k :: ks)
    | _, _ => none
theorem keyVs_rep {K : PySem.W.Frag} {B : Addr → Prop} {μ : List Addr} {H : Hp} : ∀ {xs : List Vl} {vs : List V} {ks : List Key}, keyVs xs = some ks → Reps K cl B μ H xs vs → vs = ks.map kV
  | [], _, _, h, r => by cases h; cases r; rfl
  | x :: xs, _, ks, h, r => by
    cases r with
    | cons r rs =>
      unfold keyVs at h
      split at h
      · rename_i k ks' h1 h2
        cases h
        rw [keyV_kV h1 r, keyVs_rep h2 rs, List.map_cons]
      · cases h
def dt1 (mk mv : EM) : EM := fun env S => (mk env S).bind fun k S1 => match k with
  | .tup xs => (match keyVs xs with
    | some ks => (mv env S1).bind fun v S2 => .ok (.dt [ks] [v]) S2
    | none => .bad)
  | _ => .bad
theorem dn_dt1 {ek ev : Expr} {mk mv : EM} (hu : X.A.units + 1 < cLine) (hk : PE X ek (tD X.K cl E mk)) (hv : PE X ev (tD X.K cl E mv)) : PE X (.Dict [some ek] [ev] pos) (tN X.K cl E (dt1 mk mv)) :=
  (pe_dispT1 hu hk hv).imp fun σ H Q ⟨W, ω, μ, S, env, rl, q⟩ p hp => by
  have sub : ∀ b, Wo W ω b → Wo (Wa W p) ω b := fun b z => z.elim (fun z => .inl (.inl z)) .inr
  have sub2 : ∀ b, Wo (Wa W p) ω b → Wa (Wo W ω) p b := fun b z => z.elim (fun z => z.elim (fun z => .inl (.inl z)) .inr) fun z => .inl (.inr z)
  have sub3 : ∀ b, Wa (Wo W ω) p b → Wo (Wa W p) ω b := fun b z => z.elim (fun z => z.elim (fun z => .inl (.inl z)) .inr) fun z => .inl (.inr z)
  have np : p ∉ μ := fun z => rl.sim.tracked (.inl z) hp
  have rl1 : Rl X.K cl (Wa W p) ω μ S env σ (upd H p (.dT [])) := rl.banNew (Ext.fresh hp) hp (rl.sim.freshBan hp np)
  have e0 : Ext μ H μ (upd H p (.dT [])) := Ext.fresh hp
  refine ⟨Wa W p, ω, μ, S, env, rl1, ?_⟩
  unfold dt1 at q
  cases h1 : mk env S with
  | bad => rw [h1] at q; exact q.elim
  | exc c ns xs S1 =>
    rw [h1] at q
    intro μ' H' d s1 e1 ⟨fs, x1, x2, x3⟩
    exact q μ' H' d (s1.weak sub) (e0.trans e1) ⟨fs, x1, x2, x3.mono (Kp.weak sub)⟩
  | ok k S1 =>
    rw [h1] at q
    dsimp only [Res.bind] at q
    intro μ1 H1 s1 e1 kv rk
    cases k with
    | tup xs =>
      dsimp only at q
      cases h3 : keyVs xs with
      | none => rw [h3] at q; exact q.elim
      | some ks =>
        rw [h3] at q
        dsimp only at q
        refine ⟨Wa W p, ω, μ1, S1, env, rl1.ext e1 s1, ?_⟩
        cases h2 : mv env S1 with
        | bad => rw [h2] at q; exact q.elim
        | exc c ns xs S2 =>
          rw [h2] at q
          intro μ' H' d s2 e2 ⟨fs, x1, x2, x3⟩
          exact q μ' H' d (s2.weak sub) ((e0.trans e1).trans e2) ⟨fs, x1, x2, x3.mono (Kp.weak sub)⟩
        | ok v S2 =>
          rw [h2] at q
          intro μ2 H2 s2 e2 vv rv
          have hb1 : p ∉ μ1 := fun z => s1.dis p z (.inl (.inr rfl))
          have hb2 : p ∉ μ2 := fun z => s2.dis p z (.inl (.inr rfl))
          have g1 : H1 p = some (.dT []) := e1.keep p _ upd_same np
          have g2 : H2 p = some (.dT []) := e2.keep p _ g1 hb1
          cases (rk.mono e2.kp) with
          | @tup _ b vs k1 k2 k3 =>
            obtain ⟨s3, k3'⟩ := s2.updW (D := p) (o := .dT [(ks, vv)]) (.inl (.inr rfl))
            have s4 : Sim X.K cl (Wa (Wo W ω) p) μ2 S2 (upd H2 p (.dT [(ks, vv)])) := s3.weak sub3
            refine ⟨ks, b, rfl, by rw [k1, keyVs_rep h3 k3], g2, ?_⟩
            refine q μ2 _ (s3.weak sub) ?_ p hp s4 (.dt upd_same rfl (.cons ((rv.mono k3').mono (Kp.weak sub3)) .nil))
            have e3 := (e0.trans e1).trans e2
            refine ⟨fun b o h n => ?_, fun b h => ?_, e3.pre, e3.new⟩
            · rw [upd_ne (ne_of_none h hp)]
              exact e3.keep b o h n
            · have := e3.dom b h
              unfold L2.upd
              split
              · simp
              · exact this
    | _ => exact q.elim
theorem be_newR {m : EM} (h : BE m) : BE (newR m) := fun p env S => by simp only [newR, h p env]
theorem be_dNew : BE dNew := fun _ _ _ => rfl
end
end Dm

set_option Elab.async false
set_option linter.all false
set_option maxRecDepth 100000
set_option autoImplicit false
set_option maxHeartbeats 1000000
/-! DmDt: dicts with tuples as keys: list(d), sorted(d), d[t] = v, t in d, len(d). -/
namespace Dm
open PySem PySem.Spec L2 PyProof.Rows
def keyU : Key → Vl
  | .inl i => .int i
  | .inr s => .str s
def keyT (k : List Key) : Vl := .tup (k.map keyU)
section
variable {K : PySem.W.Frag} {cl : Cl} {W : Addr → Prop} {μ : List Addr} {S : Sto} {H : Hp}
theorem keyU_rep {B : Addr → Prop} : ∀ k : List Key, Reps K cl B μ H (k.map keyU) (k.map kV)
  | [] => .nil
  | .inl i :: k => .cons (.int i) (keyU_rep k)
  | .inr s :: k => .cons (.str s) (keyU_rep k)
theorem not_ban_tup (s : Sim K cl W μ S H) {c : Addr} {vs : List V} (h : H c = some (.tup vs)) : ¬ Bn W μ c := by
  rintro (z | z)
  · obtain ⟨n, hn⟩ := List.getElem?_of_mem z
    have hl : n < S.length := by
      have := (List.getElem?_eq_some_iff.mp hn).1
      rw [s.len] at this; exact this
    obtain ⟨b, e1, e2⟩ := s.obs n _ (List.getElem?_eq_getElem hl)
    rw [hn] at e1; cases e1
    generalize S[n] = y at e2
    cases e2 with
    | lst e _ => rw [e] at h; cases h
    | dk e _ _ => rw [e] at h; cases h
    | dt e _ _ => rw [e] at h; cases h
    | ins e _ _ => rw [e] at h; cases h
    | tab _ e _ => rw [e] at h; cases h
  · obtain ⟨o, e, n⟩ := s.trn c z
    rw [h] at e
    cases e
    exact n _ rfl
theorem keyT_rep (s : Sim K cl W μ S H) {c : Addr} {k : List Key} (h : H c = some (.tup (k.map kV))) : Rep K cl (Bn W μ) μ H (keyT k) (.ref c) := .tup h (not_ban_tup s h) (keyU_rep k)
/-- cs hold the tuples ks -/
def Hold (H : Hp) : List (List Key) → List Addr → Prop
  | [], [] => True
  | k :: ks, c :: cs => H c = some (.tup (k.map kV)) ∧ Hold H ks cs
  | _, _ => False
theorem hold_rep (s : Sim K cl W μ S H) : ∀ {ks : List (List Key)} {cs : List Addr}, Hold H ks cs → Reps K cl (Bn W μ) μ H (ks.map keyT) (cs.map V.ref)
  | [], [], _ => .nil
  | k :: ks, c :: cs, h => .cons (keyT_rep s h.1) (hold_rep s h.2)
  | [], _ :: _, h => h.elim
  | _ :: _, [], h => h.elim
theorem hold_length : ∀ {ks : List (List Key)} {cs : List Addr}, Hold H ks cs → cs.length = ks.length
  | [], [], _ => rfl
  | k :: ks, c :: cs, h => by rw [List.length_cons, List.length_cons, hold_length h.2]
  | [], _ :: _, h => h.elim
  | _ :: _, [], h => h.elim
theorem kt_hold : ∀ {kvs : List (List Key × V)} {xs : List (List Key × Addr × Value)}, KT H kvs xs → Hold H (kvs.map (·.1)) (xs.map (·.2.1))
  | [], [], .nil => True.intro
  | p :: kvs, q :: xs, .cons h t => ⟨h.2.1, kt_hold t⟩
end
/-! ### list(d) -/
def rListT : List V → Hp → VK → Prop := fun xs H Q => ∃ (a : Addr) (kvs : List (List Key × V)), xs = [.ref a] ∧ Rd H a (.dT kvs) ∧ ∀ (cs : List Addr) (p : Addr), Hold H (kvs.map (·.1)) cs → H p = none → Q (.ref p) (upd H p (.lst (cs.map V.ref)))
section
variable {X : Cx}
theorem items_refs {es : Array DictEntry} {xs : List (List Key × Addr × Value)} {knd : KeyKind X.prog X.w Key} {acc : Array Value} (he : es.toList = xs.map (entryOfKey (tupleKind knd))) (hacc : ItemsOf (fun i v => ∃ hi : i < es.size, v = es[i].key) acc es.size) :
    acc.toList = (xs.map (·.2.1)).map Value.ref := by
  have hl : es.size = xs.length := by rw [← Array.length_toList, he, List.length_map]
  refine List.ext_getElem? fun i => ?_
  by_cases hi : i < es.size
  · have h1 : i < acc.size := by rw [hacc.1]; exact hi
    have e1 : acc.toList[i]? = some acc[i] := by rw [Array.getElem?_toList]; exact Array.getElem?_eq_getElem h1
    obtain ⟨_, e2⟩ := hacc.2 i acc[i] (Array.getElem?_eq_getElem h1)
    have e3 : es.toList[i]? = some es[i] := by rw [Array.getElem?_toList]; exact Array.getElem?_eq_getElem hi
    rw [he, List.getElem?_map] at e3
    obtain ⟨x, hx, e4⟩ := Option.map_eq_some_iff.mp e3
    rw [e1, e2, ← e4, List.getElem?_map, List.getElem?_map, hx]
    rfl
  · rw [List.getElem?_eq_none (by rw [Array.length_toList, hacc.1]; omega), List.getElem?_eq_none (by rw [List.length_map, List.length_map]; omega)]
theorem call_listT (hcalm : X.calm = true) : CallR X (.type "list") rListT := by
  intro pins s σ H xs us Q I r q
  obtain ⟨a, kvs, ex, hd, q⟩ := q
  subst ex
  obtain ⟨u, eu, rx⟩ := vals1 r
  subst eu
  cases rx
  obtain ⟨z, lo, xs, rel, o, es, ep, ho, hc, hdt, he, his, hn⟩ := dt_rd I.hok hd
  have hsz : es.size = kvs.length := by rw [← Array.length_toList, he, List.length_map, Paired.length rel]
  refine PySem.W.kdl_call (PySem.KdlSrc.rawDict (es := es) (ep := ep) lo) (I.ok.hd hcalm) ⟨o, ho, hc, hdt⟩ (by rw [hsz]; exact z) fun h' tk acc c' hk hD hacc => ?_
  have ea := items_refs he hacc
  have hh := kt_hold rel
  have hv : Vals ((xs.map (·.2.1)).map V.ref) acc.toList := by
    rw [ea]
    generalize xs.map (·.2.1) = cs
    induction cs with
    | nil => exact .nil
    | cons c cs ih => exact .cons rfl ih
  refine ⟨.ref s.heap.objs.size, upd H s.heap.objs.size (.lst ((xs.map (·.2.1)).map V.ref)), I.laid (t' := tk) hk (Nat.le_refl _)
    (show ObjOk X.prog X.w _ _ _ (.lst ((xs.map (·.2.1)).map V.ref)) from ⟨by rw [List.length_map, hold_length hh, List.length_map]; exact z, acc.toList, c', hv, by rw [Array.toArray_toList]; exact hD⟩), rfl, q _ _ hh (I.hok.fresh (Nat.le_refl _))⟩
end
/-! ### sorted(d), tuples of ints -/
section
variable {prog : Program} {w : World} {A : Around} {E : Value → Shared → Prop} {s : Shared}
theorem swo_rk {α : Type} (r : α → Int) : SrtO.Swo fun v u => decide (r v < r u) := ⟨fun x y h => by
    have := of_decide_eq_true h
    exact decide_eq_false (by omega), fun x y z h1 h2 => by
    have := of_decide_eq_false h1
    have := of_decide_eq_false h2
    exact decide_eq_false (by omega)⟩
theorem tups_cmp {d : Nat} {B : Int} {vs : List Value} (hd : 1 ≤ d) (x : TS.TupsOk s.heap d B vs) (r : Value → Int) (hr : ∀ v, v ∈ vs → ∀ ns, TS.TupInts s.heap v ns → r v = TS.code B ns) :
    SrtO.Cmp prog w A s (tuples' true) (fun p => p.1 ∈ vs) (SrtO.lt2 fun v u => decide (r v < r u)) := by
  intro p q hp hq
  show wpAny (model prog w) A (keyLt' (tuples' true) p.1 q.1) (fun b s' => s' = s ∧ b = decide (r p.1 < r q.1)) (fun _ _ => False) s
  obtain ⟨ns, tp, lp, bp⟩ := x _ hp
  obtain ⟨ms, tq, lq, bq⟩ := x _ hq
  rw [hr _ hp _ tp, hr _ hq _ tq]
  obtain ⟨a, xs, e1, ⟨o, ho, hc, n, hdt⟩, i⟩ := tp
  obtain ⟨a', ys, e2, ⟨o', ho', hc', n', hdt'⟩, i'⟩ := tq
  rw [e1, e2]
  refine PySem.W.kat_lt ho hdt ho' hdt' ?_
  have sz : decide (xs.size < ys.size) = false := by
    have l1 := i.length
    have l2 := i'.length
    rw [Array.length_toList] at l1 l2
    exact decide_eq_false (by omega)
  rw [sz]
  exact TS.lex_ints 0 i i' (by omega) bp bq ⟨rfl, rfl⟩
theorem tups_sortable {a : Addr} {d : Nat} {B : Int} {vs : List Value} (hd : 1 ≤ d) (h0 : 0 < vs.length) (x : TS.TupsOk s.heap d B vs) (r : Value → Int) (hr : ∀ v, v ∈ vs → ∀ ns, TS.TupInts s.heap v ns → r v = TS.code B ns) (ha : ∀ o, s.heap.get? a = some o → o.cls ≠ .type "tuple") :
    SrtO.SortableO prog w A s a vs fun v u => decide (r v < r u) := by
  intro h' keep
  have kp : ∀ b o, s.heap.get? b = some o → o.cls = .type "tuple" → h'.get? b = some o := fun b o e c => keep b o (fun z => by subst z; exact ha o e c) e
  have x' : TS.TupsOk h' d B vs := x.keeps kp
  have hr' : ∀ v, v ∈ vs → ∀ ns, TS.TupInts h' v ns → r v = TS.code B ns := fun v hv ns tn => by
    obtain ⟨ms, tm, _⟩ := x v hv
    rw [hr v hv ms tm]
    have e := (tm.keeps kp).ints
    rw [tn.ints] at e
    rw [e]
  obtain ⟨fs, k, hl, hi⟩ := TS.firsts_of hd vs x'
  refine ⟨tuples' true, fun Q E hq => ?_, tups_cmp (s := { s with heap := h' }) hd x' r hr'⟩
  refine PySem.W.kat_kind (T := .type "int") k (by omega) (fun f hm => ?_) (by rfl) ?_
  · obtain ⟨n, t, rfl⟩ := hi f hm
    exact PySem.W.Looks.now
  · have e : (Value.type "int" != Value.type "tuple") = true := by first | decide +kernel | rfl | decide
    rw [e]
    exact hq
end
/-- the ints of a tuple, read off -/
def iOf : V → Int
  | .int i => i
  | _ => 0
def kOf (H : Hp) (c : Addr) : List Int := match H c with
  | some (.tup vs) => vs.map iOf
  | _ => []
theorem iOf_map (ns : List Int) : ((ns.map Sum.inl : List Key).map kV).map iOf = ns := by
  induction ns with
  | nil => rfl
  | cons n ns ih => rw [List.map_cons, List.map_cons, List.map_cons, ih]; rfl
theorem kOf_tup {H : Hp} {c : Addr} {ns : List Int} (h : H c = some (.tup ((ns.map Sum.inl : List Key).map kV))) : kOf H c = ns := by
  unfold kOf
  rw [h]
  exact iOf_map ns
theorem hold_kOf {H : Hp} : ∀ {nss : List (List Int)} {cs : List Addr}, Hold H (nss.map fun ns => (ns.map Sum.inl : List Key)) cs → nss = cs.map (kOf H) ∧ ∀ c ∈ cs, H c = some (.tup (((kOf H c).map Sum.inl : List Key).map kV))
  | [], [], _ => ⟨rfl, fun c hc => absurd hc (by simp)⟩
  | ns :: nss, c :: cs, h => by
    obtain ⟨h1, h2⟩ := h
    obtain ⟨i1, i2⟩ := hold_kOf h2
    refine ⟨by rw [List.map_cons, kOf_tup h1, ← i1], fun b hb => ?_⟩
    rcases List.mem_cons.mp hb with rfl | hb
    · rw [kOf_tup h1]; exact h1
    · exact i2 b hb
  | [], _ :: _, h => h.elim
  | _ :: _, [], h => h.elim
theorem kOf_hold {H : Hp} : ∀ {cs : List Addr}, (∀ c ∈ cs, H c = some (.tup (((kOf H c).map Sum.inl : List Key).map kV))) → Hold H ((cs.map (kOf H)).map fun ns => (ns.map Sum.inl : List Key)) cs
  | [], _ => True.intro
  | c :: cs, h => ⟨h c (List.mem_cons_self ..), kOf_hold fun b hb => h b (List.mem_cons_of_mem _ hb)⟩
def adOf : Value → Addr
  | .ref a => a
  | _ => 0
def rSortT : List V → Hp → VK → Prop := fun xs H Q => ∃ (a : Addr) (kvs : List (List Key × V)) (nss : List (List Int)) (d : Nat) (B : Int), xs = [.ref a] ∧ Rd H a (.dT kvs) ∧ kvs.map (·.1) = nss.map (fun ns => (ns.map Sum.inl : List Key)) ∧ (∀ ns ∈ nss, ns.length = d ∧ TS.Bd B ns) ∧ (1 ≤ d ∨ nss.length < 2) ∧
  ∀ (cs : List Addr) (mss : List (List Int)) (p : Addr), mss.Perm nss → mss.Pairwise (fun x y => TS.code B x ≤ TS.code B y) → Hold H (mss.map fun ns => (ns.map Sum.inl : List Key)) cs → H p = none → Q (.ref p) (upd H p (.lst (cs.map V.ref)))
theorem tupInts_of {P : Program} {w : World} {H : Hp} {h : Heap} (ok : HOk P w H h) {c : Addr} {ns : List Int} (e : H c = some (.tup ((ns.map Sum.inl : List Key).map kV))) : TS.TupInts h (.ref c) ns := by
  obtain ⟨_, its, r, o, h1, h2, n, h3⟩ := (show ObjOk P w H h c (.tup ((ns.map Sum.inl : List Key).map kV)) from ok c _ e)
  refine ⟨c, its.toArray, rfl, ⟨o, h1, h2, n, h3⟩, ?_⟩
  have r2 : Vals (ns.map V.int) its := by
    rw [List.map_map] at r
    exact r
  simpa using r2.ints
section
variable {X : Cx}
theorem call_sortT (hcalm : X.calm = true) : CallR X (.builtin "sorted") rSortT := by
  intro pins s σ H xs us Q I r q
  obtain ⟨a, kvs, nss, d, B, ex, hdt, hks, hall, hd1, q⟩ := q
  subst ex
  obtain ⟨u, eu, rx⟩ := vals1 r
  subst eu
  cases rx
  obtain ⟨z, lo, xs, rel, o, es, ep, ho, hc, hdat, he, his, hn⟩ := dt_rd I.hok hdt
  have hsz : es.size = kvs.length := by rw [← Array.length_toList, he, List.length_map, Paired.length rel]
  have hh := kt_hold rel
  rw [hks] at hh
  obtain ⟨hk1, hk2⟩ := hold_kOf hh
  generalize hcs : xs.map (·.2.1) = cs at hk1 hk2
  refine Calls.call_function_entry PyProof.Rows.kind_sorted PyProof.Rows.plain_sorted PyProof.Rows.entry_sorted (PyProof.Rows.args_sorted1 _) ?_
  unfold Builtin.«sorted»
  refine wpAny_bind (m := checkCount "sorted" 1 1 _) (wpAny_pure ?_)
  refine wpAny_bind (PySem.W.kdu_collect (A := X.A.in1) (PySem.KdlSrc.rawDict (es := es) (ep := ep) lo) (I.ok.hd hcalm) ⟨o, ho, hc, hdat⟩ (by rw [hsz]; exact z) fun h' tk acc hk hacc => ?_)
  have ea := items_refs he hacc
  rw [hcs] at ea
  have hlc : cs.length = kvs.length := by rw [← hcs, List.length_map, Paired.length rel]
  have hal : acc.toList.length = kvs.length := by rw [ea, List.length_map, hlc]
  have I1 : Inv X pins σ H { s with heap := h', toks := tk } := I.kept hk
  refine wpAny_bind (wpAny_newList ?_ (by rw [hal]; exact z))
  have hoL : (h'.push (seqObj "list" acc.toList.toArray 0)).get? h'.objs.size = some (seqObj "list" acc.toList.toArray 0) := Heap.get?_push_size _ rfl
  show wpAny _ _ _ _ _ { s with heap := h'.push (seqObj "list" acc.toList.toArray 0), toks := tk }
  have kp : ∀ b o, h'.get? b = some o → (h'.push (seqObj "list" acc.toList.toArray 0)).get? b = some o := fun b o e => Heap.get?_push_of_some _ e
  have htup : ∀ c ∈ cs, TS.TupInts (h'.push (seqObj "list" acc.toList.toArray 0)) (.ref c) (kOf H c) := fun c hc => (tupInts_of I1.hok (hk2 c hc)).keeps fun b o e _ => kp b o e
  let rk : Value → Int := fun v => TS.code B (kOf H (adOf v))
  have hmem : ∀ v ∈ acc.toList, ∃ c ∈ cs, v = .ref c := fun v hv => by
    rw [ea] at hv
    obtain ⟨c, hc, e⟩ := List.mem_map.mp hv
    exact ⟨c, hc, e.symm⟩
  have hlk : ∀ c ∈ cs, (kOf H c).length = d ∧ TS.Bd B (kOf H c) := fun c hc => hall _ (by rw [hk1]; exact List.mem_map_of_mem hc)
  refine wpAny_bind (wpAny_holding (wpAny_call_entry PyProof.Rows.slot_list_sort ⟨_, hoL, rfl⟩ PyProof.Rows.entry_list_sort
    (SrtO.list_sort_ord (s := { s with heap := h'.push (seqObj "list" acc.toList.toArray 0), toks := tk }) (swo_rk rk) hoL (by rw [hal]; exact z) (fun h2 => ?_) fun out h1 h2 => ⟨_, rfl, ?_⟩) (PyProof.Rows.args_list_sort _)))
  · refine tups_sortable (s := { s with heap := h'.push (seqObj "list" acc.toList.toArray 0), toks := tk }) (d := d) (B := B) ?_ (by omega) (fun v hv => ?_) rk (fun v hv ns tn => ?_) fun o e => ?_
    · rcases hd1 with g | g
      · exact g
      · rw [hk1, List.length_map, hlc, ← hal] at g
        omega
    · obtain ⟨c, hc, rfl⟩ := hmem v hv
      exact ⟨_, htup c hc, hlk c hc⟩
    · obtain ⟨c, hc, rfl⟩ := hmem v hv
      show TS.code B (kOf H c) = _
      have e := (htup c hc).ints
      rw [tn.ints] at e
      rw [e]
    · have e' : some o = some (seqObj "list" acc.toList.toArray 0) := e.symm.trans hoL
      cases e'
      intro c
      exact absurd (Value.type.inj c) (by decide)
  · obtain ⟨e', he'⟩ := PyProof.Rows.sortedHeap_at (vs := acc.toList) (out := out.toArray) hoL
    have hp : (out.map adOf).Perm cs := by
      have q1 := h2.perm.map adOf
      rw [ea, List.map_map] at q1
      have e : cs.map (adOf ∘ Value.ref) = cs := List.map_id cs
      rwa [e] at q1
    have hout : out = (out.map adOf).map Value.ref := by
      rw [List.map_map]
      have e : out.map (Value.ref ∘ adOf) = out.map id := List.map_congr_left fun v hv => by
        obtain ⟨c, _, rfl⟩ := hmem v (h2.perm.mem_iff.mp hv)
        rfl
      rw [e, List.map_id]
    have hv : Vals ((out.map adOf).map V.ref) out := by
      have : Vals ((out.map adOf).map V.ref) ((out.map adOf).map Value.ref) := by
        generalize out.map adOf = l
        induction l with
        | nil => exact .nil
        | cons c l ih => exact .cons rfl ih
      rwa [← hout] at this
    have hlen : ((out.map adOf).map V.ref).length ≤ sizeLine := by
      rw [List.length_map, hp.length_eq, hlc]
      exact z
    refine wpAny_pure ⟨_, rfl, .ref h'.objs.size, upd H h'.objs.size (.lst ((out.map adOf).map V.ref)), I1.laid (t' := tk) (fun b u e => ?_) (Nat.le_refl _)
      (show ObjOk X.prog X.w _ _ _ (.lst ((out.map adOf).map V.ref)) from ⟨hlen, out, e', hv, he'⟩), rfl, q (out.map adOf) ((out.map adOf).map (kOf H)) _ ?_ ?_ (kOf_hold fun c hc => hk2 c (hp.mem_iff.mp hc)) (I1.hok.fresh (Nat.le_refl _))⟩
    · have hb : b < h'.objs.size := Heap.lt_size e
      rw [PyProof.Rows.sortedHeap_old (Nat.ne_of_lt hb) (by rw [size_push']; exact Nat.lt_succ_of_lt hb)]
      exact Heap.get?_push_of_some _ e
    · rw [hk1]
      exact hp.map _
    · rw [List.pairwise_map, List.pairwise_map]
      exact h1.imp fun {x y} g => by
        have := of_decide_eq_false (p := rk y < rk x) g
        show rk x ≤ rk y
        omega
end
/-! ### the mirrors -/
/-- the keys of a dict with tuples as keys -/
def dtOf : Vl → Option (List (List Key))
  | .dt ks _ => some ks
  | .fdt ks _ => some ks
  | _ => none
theorem repR_dtO {K : PySem.W.Frag} {cl : Cl} {W : Addr → Prop} {ω : List (Option Addr)} {μ : List Addr} {H : Hp} {x : Vl} {v : V} {ks : List (List Key)} (e : dtOf x = some ks) (r : RepR K cl W ω μ H x v) : ∃ a kvs, v = .ref a ∧ Rd H a (.dT kvs) ∧ kvs.map (·.1) = ks := by
  cases x with
  | dt q ys =>
    cases e
    rcases r with r | ⟨a, e, r⟩
    · cases r with
      | dt h1 _ h2 h3 => exact ⟨_, _, rfl, .inl h1, h2⟩
    · cases r with
      | dt h1 h2 h3 => exact ⟨_, _, e, .inl h1, h2⟩
  | fdt q ys =>
    cases e
    rcases r with r | ⟨a, e, r⟩
    · cases r with
      | fdt h1 _ h2 h3 => exact ⟨_, _, rfl, .inr ⟨_, h1⟩, h2⟩
    · cases r
  | _ => cases e
def listTF : FA := fun S xs => match xs with
  | [x] => (match dtOf (look S x) with
    | some ks => some (.lst (ks.map keyT))
    | none => none)
  | _ => none
def intKT : List (List Key) → Option (List (List Int))
  | [] => some []
  | k :: ks => match intKs k, intKT ks with
    | some n, some ns => some (n :: ns)
    | _, _ => none
theorem intKT_ok : ∀ {ks : List (List Key)} {nss : List (List Int)}, intKT ks = some nss → ks = nss.map fun ns => (ns.map Sum.inl : List Key)
  | [], nss, h => by cases h; rfl
  | k :: ks, nss, h => by
    unfold intKT at h
    split at h
    · rename_i n ns h1 h2
      cases h
      rw [List.map_cons, ← intKs_ok h1, ← intKT_ok h2]
    · cases h
def insB {α : Type} (f : α → Int) (x : α) : List α → List α
  | [] => [x]
  | y :: ys => if f x ≤ f y then x :: y :: ys else y :: insB f x ys
def isortB {α : Type} (f : α → Int) : List α → List α
  | [] => []
  | x :: xs => insB f x (isortB f xs)
section
variable {α : Type} {f : α → Int}
theorem insB_perm (x : α) : ∀ ys : List α, (insB f x ys).Perm (x :: ys)
  | [] => .refl _
  | y :: ys => by
    unfold insB
    split
    · exact .refl _
    · exact ((insB_perm x ys).cons y).trans (.swap x y ys)
theorem isortB_perm : ∀ xs : List α, (isortB f xs).Perm xs
  | [] => .refl _
  | x :: xs => (insB_perm x (isortB f xs)).trans ((isortB_perm xs).cons x)
theorem insB_sorted (x : α) : ∀ ys : List α, ys.Pairwise (fun a b => f a ≤ f b) → (insB f x ys).Pairwise (fun a b => f a ≤ f b)
  | [], _ => by unfold insB; simp
  | y :: ys, h => by
    unfold insB
    cases h with
    | cons h1 h2 =>
      split
      · rename_i hxy
        exact .cons (fun z hz => by
          rcases List.mem_cons.mp hz with hz | hz
          · rw [hz]; exact hxy
          · exact Int.le_trans hxy (h1 z hz)) (.cons h1 h2)
      · rename_i hxy
        refine .cons (fun z hz => ?_) (insB_sorted x ys h2)
        rcases List.mem_cons.mp ((insB_perm x ys).mem_iff.mp hz) with hz | hz
        · rw [hz]; omega
        · exact h1 z hz
theorem isortB_sorted : ∀ xs : List α, (isortB f xs).Pairwise (fun a b => f a ≤ f b)
  | [] => .nil
  | x :: xs => insB_sorted x _ (isortB_sorted xs)
theorem sortedB_uniq : ∀ {xs ys : List α}, xs.Perm ys → (∀ x ∈ xs, ∀ y ∈ xs, f x = f y → x = y) → xs.Pairwise (fun a b => f a ≤ f b) → ys.Pairwise (fun a b => f a ≤ f b) → xs = ys
  | [], ys, h, _, _, _ => (List.perm_nil.mp h.symm).symm
  | x :: xs, [], h, _, _, _ => absurd (List.perm_nil.mp h) (by simp)
  | x :: xs, y :: ys, h, inj, .cons a1 a2, .cons b1 b2 => by
    have e : x = y := by
      rcases List.mem_cons.mp (h.mem_iff.mp (List.mem_cons_self ..)) with z | z
      · exact z
      · rcases List.mem_cons.mp (h.mem_iff.mpr (List.mem_cons_self ..)) with w | w
        · exact w.symm
        · exact inj x (List.mem_cons_self ..) y (List.mem_cons_of_mem _ w) (Int.le_antisymm (a1 y w) (b1 x z))
    subst e
    rw [sortedB_uniq (List.Perm.cons_inv h) (fun a ha b hb => inj a (List.mem_cons_of_mem _ ha) b (List.mem_cons_of_mem _ hb)) a2 b2]
end
theorem code_inj {B : Int} : ∀ {ns ms : List Int}, ns.length = ms.length → TS.Bd B ns → TS.Bd B ms → TS.code B ns = TS.code B ms → ns = ms
  | [], [], _, _, _, _ => rfl
  | n :: ns, m :: ms, hl, h1, h2, e => by
    have hl' : ns.length = ms.length := by simpa using hl
    rcases Int.lt_trichotomy n m with g | g | g
    · have := TS.code_lt hl' h1.tail h2.tail g
      omega
    · subst g
      have e2 : TS.code B ns = TS.code B ms := by
        have a := TS.code_same (B := B) (d := n) hl'
        have b := TS.code_same (B := B) (d := n) hl'.symm
        rcases Int.lt_trichotomy (TS.code B ns) (TS.code B ms) with q | q | q
        · have := a.mpr q; omega
        · exact q
        · have := b.mpr q; omega
      rw [code_inj hl' h1.tail h2.tail e2]
    · have := TS.code_lt hl'.symm h2.tail h1.tail g
      omega
/-- the base of the codes -/
def B64 : Int := 18446744073709551616
abbrev cod : List Int → Int := TS.code B64
def okT (nss : List (List Int)) : Bool := nss.all fun ns => decide (ns.length = (nss.headD []).length) && ns.all (fun n => decide (0 ≤ n) && decide (n < B64)) && (decide (1 ≤ (nss.headD []).length) || decide (nss.length < 2))
theorem okT_ok {nss : List (List Int)} (h : okT nss = true) : (∀ ns ∈ nss, ns.length = (nss.headD []).length ∧ TS.Bd B64 ns) ∧ (1 ≤ (nss.headD []).length ∨ nss.length < 2) := by
  unfold okT at h
  have h' := List.all_eq_true.mp h
  refine ⟨fun ns hn => ?_, ?_⟩
  · have q := h' ns hn
    simp only [Bool.and_eq_true, decide_eq_true_eq] at q
    refine ⟨q.1.1, fun m hm => ?_⟩
    have q2 := List.all_eq_true.mp q.1.2 m hm
    simpa using q2
  · cases nss with
    | nil => exact .inr (by simp)
    | cons n r =>
      have q := h' n (List.mem_cons_self ..)
      simp only [Bool.and_eq_true, Bool.or_eq_true, decide_eq_true_eq] at q
      exact q.2
def tupI (ns : List Int) : Vl := .tup (ns.map .int)
theorem keyT_int (ns : List Int) : keyT (ns.map Sum.inl) = tupI ns := by
  unfold keyT tupI
  rw [List.map_map]
  rfl
def sortTF : FA := fun S xs => match xs with
  | [x] => (match dtOf (look S x) with
    | some ks => (match intKT ks with
      | some nss => if okT nss = true then some (.lst ((isortB cod nss).map tupI)) else none
      | none => none)
    | none => none)
  | _ => none
theorem repR_dt {K : PySem.W.Frag} {cl : Cl} {W : Addr → Prop} {ω : List (Option Addr)} {μ : List Addr} {H : Hp} {xs : List Vl} {v : V} {ks : List (List Key)} (r : RepR K cl W ω μ H (.dt ks xs) v) : ∃ a kvs, v = .ref a ∧ H a = some (.dT kvs) ∧ kvs.map (·.1) = ks ∧ Reps K cl (Bn (Wo W ω) μ) μ H xs (kvs.map (·.2)) := by
  rcases r with r | ⟨a, e, r⟩
  · cases r with
    | dt h1 _ h2 h3 => exact ⟨_, _, rfl, h1, h2, h3⟩
  · cases r with
    | dt h1 h2 h3 => exact ⟨_, _, e, h1, h2, h3⟩
section
variable {X : Cx} {cl : Cl}
theorem s_listT : OpAN X cl rListT listTF := fun W ω μ S H xs z vs Q s r h k => by
  unfold listTF at h
  split at h
  · obtain ⟨v, rfl, rv⟩ := repsL1 r
    have rr := repR_of s rv
    revert h rr
    generalize look S _ = x'
    intro h rr
    cases hx : dtOf x' with
    | none => rw [hx] at h; cases h
    | some ks =>
      rw [hx] at h
      cases h
      obtain ⟨a, kvs, rfl, h1, h2⟩ := repR_dtO hx rr
      subst h2
      exact ⟨a, kvs, rfl, h1, fun cs p hh hp => k p _ hp (.lst (hold_rep s hh))⟩
  · cases h
theorem s_sortT : OpAN X cl rSortT sortTF := fun W ω μ S H xs z vs Q s r h k => by
  unfold sortTF at h
  split at h
  · obtain ⟨v, rfl, rv⟩ := repsL1 r
    have rr := repR_of s rv
    revert h rr
    generalize look S _ = x'
    intro h rr
    cases hx : dtOf x' with
    | none => rw [hx] at h; cases h
    | some ks =>
      rw [hx] at h
      dsimp only at h
      cases hn : intKT ks with
      | none => rw [hn] at h; cases h
      | some nss =>
        rw [hn] at h
        dsimp only at h
        split at h
        · rename_i ho
          cases h
          obtain ⟨o1, o2⟩ := okT_ok ho
          obtain ⟨a, kvs, rfl, h1, h2⟩ := repR_dtO hx rr
          refine ⟨a, kvs, nss, _, B64, rfl, h1, h2.trans (intKT_ok hn), o1, o2, fun cs mss p hp hs hh hpn => ?_⟩
          have e : mss = isortB cod nss := sortedB_uniq (f := cod) (hp.trans (isortB_perm nss).symm) (fun x hx y hy exy => by
            obtain ⟨x1, x2⟩ := o1 x (hp.mem_iff.mp hx)
            obtain ⟨y1, y2⟩ := o1 y (hp.mem_iff.mp hy)
            exact code_inj (x1.trans y1.symm) x2 y2 exy) hs (isortB_sorted nss)
          subst e
          have rr := hold_rep s hh
          rw [List.map_map] at rr
          have e2 : (isortB cod nss).map (keyT ∘ fun ns => (ns.map Sum.inl : List Key)) = (isortB cod nss).map tupI := List.map_congr_left fun ns _ => keyT_int ns
          rw [e2] at rr
          exact k p _ hpn (.lst rr)
        · cases h
  · cases h
/-! ### t in d -/
def inTF : F2 := fun S x y => match x, dtOf (look S y) with
  | .tup xs, some ks => (keyVs xs).map fun k => .bl (ks.any fun q => decide (q = k))
  | _, _ => none
def notInTF : F2 := fun S x y => match x, dtOf (look S y) with
  | .tup xs, some ks => (keyVs xs).map fun k => .bl (!(ks.any fun q => decide (q = k)))
  | _, _ => none
theorem valV_isSome (kvs : List (List Key × V)) (k : List Key) : (valV kvs k).isSome = (kvs.map (·.1)).any fun q => decide (q = k) := by
  rw [← valV_any, List.any_map]
  rfl
theorem s_inT : Op2 X cl rInDct inTF := fun W ω μ S H x y z v u Q s rx ry h k => by
  have r2 := repR_of s ry
  unfold inTF at h
  revert h r2
  generalize look S y = y'
  intro h r2
  split at h
  · rename_i xs ks hx
    obtain ⟨q, hq, rfl⟩ := Option.map_eq_some_iff.mp h
    obtain ⟨a, kvs, rfl, h1, h2⟩ := repR_dtO hx r2
    subst h2
    rcases rx with rx | ⟨b, _, _, rb⟩
    · cases rx with
      | @tup _ b vs g1 g2 g3 =>
        refine ⟨a, valV kvs q, rfl, .inr ⟨kvs, q, b, h1, rfl, by rw [g1, keyVs_rep hq g3], rfl⟩, ?_⟩
        rw [valV_isSome]
        exact k H _ s Ext.refl (.bl _)
    · cases rb
  · cases h
theorem s_notInT : Op2 X cl rNotInDct notInTF := fun W ω μ S H x y z v u Q s rx ry h k => by
  have r2 := repR_of s ry
  unfold notInTF at h
  revert h r2
  generalize look S y = y'
  intro h r2
  split at h
  · rename_i xs ks hx
    obtain ⟨q, hq, rfl⟩ := Option.map_eq_some_iff.mp h
    obtain ⟨a, kvs, rfl, h1, h2⟩ := repR_dtO hx r2
    subst h2
    rcases rx with rx | ⟨b, _, _, rb⟩
    · cases rx with
      | @tup _ b vs g1 g2 g3 =>
        refine ⟨a, valV kvs q, rfl, .inr ⟨kvs, q, b, h1, rfl, by rw [g1, keyVs_rep hq g3], rfl⟩, ?_⟩
        rw [valV_isSome]
        exact k H _ s Ext.refl (.bl _)
    · cases rb
  · cases h
end
/-! ### d[t] = v, d an own dict -/
def replT (k : List Key) (x : Vl) : List (List Key) → List Vl → List Vl
  | q :: ks, y :: xs => (if q = k then x else y) :: replT k x ks xs
  | _, _ => []
def putT (ks : List (List Key)) (xs : List Vl) (k : List Key) (x : Vl) : List (List Key) × List Vl := if (ks.any fun q => decide (q = k)) = true then (ks, replT k x ks xs) else (ks ++ [k], xs ++ [x])
section
variable {K : PySem.W.Frag} {cl : Cl} {B : Addr → Prop} {μ : List Addr} {H : Hp}
theorem replT_ok {k : List Key} {x : Vl} {v : V} (rx : Rep K cl B μ H x v) : ∀ {kvs : List (List Key × V)} {xs : List Vl}, Reps K cl B μ H xs (kvs.map (·.2)) →
    (kvs.map fun kv => if kv.1 = k then (kv.1, v) else kv).map (·.1) = kvs.map (·.1) ∧ Reps K cl B μ H (replT k x (kvs.map (·.1)) xs) ((kvs.map fun kv => if kv.1 = k then (kv.1, v) else kv).map (·.2))
  | [], _, r => by cases r; exact ⟨rfl, .nil⟩
  | (q, w) :: kvs, _, r => by
    cases r with
    | cons r rs =>
      obtain ⟨i1, i2⟩ := replT_ok (k := k) rx rs
      by_cases hq : q = k
      · simp only [List.map_cons, replT, if_pos hq]
        exact ⟨by rw [i1], .cons rx i2⟩
      · simp only [List.map_cons, replT, if_neg hq]
        exact ⟨by rw [i1], .cons r i2⟩
theorem putT_ok {k : List Key} {x : Vl} {v : V} (rx : Rep K cl B μ H x v) {kvs : List (List Key × V)} {xs : List Vl} (r : Reps K cl B μ H xs (kvs.map (·.2))) :
    (putK kvs k v).map (·.1) = (putT (kvs.map (·.1)) xs k x).1 ∧ Reps K cl B μ H (putT (kvs.map (·.1)) xs k x).2 ((putK kvs k v).map (·.2)) := by
  have am : (kvs.any fun kv => decide (kv.1 = k)) = (kvs.map (·.1)).any fun q => decide (q = k) := by
    rw [List.any_map]
    rfl
  unfold putK putT
  rw [am]
  by_cases h : ((kvs.map (·.1)).any fun q => decide (q = k)) = true
  · rw [if_pos h, if_pos h]
    exact replT_ok rx r
  · rw [if_neg h, if_neg h]
    exact ⟨by simp, by rw [List.map_append]; exact r.snoc rx⟩
theorem own_dt {W : Addr → Prop} {ω : List (Option Addr)} {S : Sto} {env : List Sv} {σ : L2.St} {i : Nat} {ks : List (List Key)} {xs : List Vl} (rl : Rl K cl W ω μ S env σ H) (he : env[i]? = some (.ow (.dt ks xs))) :
    ∃ a kvs, ω[i]? = some (some a) ∧ σ[i]? = some (some (.ref a)) ∧ H a = some (.dT kvs) ∧ kvs.map (·.1) = ks ∧ Reps K cl (Bn (Wo W ω) μ) μ H xs (kvs.map (·.2)) := by
  obtain ⟨o, s, h1, h2, a, h3, h4, h5⟩ := rl.slot he
  subst h4
  subst h3
  cases h5 with
  | dt g1 g2 g3 => exact ⟨a, _, h1, h2, g1, g2, g3⟩
end
def setDT (i : Nat) (mi mv : EM) : SM := fun env S => match env[i]? with
  | some (.ow (.dt ks xs)) => (mv env S).bind fun v S1 => (mi env S1).bind fun k S2 => (match k with
    | .tup ys => (match keyVs ys with
      | some q => if ks.length < 16777216 then .ok (.nx (env.set i (.ow (.dt (putT ks xs q v).1 (putT ks xs q v).2)))) S2 else .bad
      | none => .bad)
    | _ => .bad)
  | _ => .bad
section
variable {X : Cx} {cl : Cl} {E : XK} {i : Nat} {st : Stmt}
theorem ds_setDT {mi mv : EM} {tv ti : TE} (h : PS X st (tAsg tv (gSub (tVar i) ti rSetD))) (hv : ∀ σ H Q, tD X.K cl E mv σ H Q → tv σ H Q) (hi : ∀ σ H Q, tD X.K cl E mi σ H Q → ti σ H Q) : PS X st (tS X.K cl E (setDT i mi mv)) := h.imp fun D σ H ⟨W, ω, μ, S, env, rl, q⟩ => by
  unfold setDT at q
  split at q
  · rename_i ks xs he
    refine hv _ _ _ ⟨W, ω, μ, S, env, rl, q.ofG.mono fun v S1 μ1 H1 _ s1 e1 q1 vv rv => ?_⟩
    have r1 := rl.ext e1 s1
    obtain ⟨a, _, h1, h2, _, _, _⟩ := own_dt r1 he
    refine ⟨.ref a, h2, hi _ _ _ ⟨W, ω, μ1, S1, env, r1, q1.ofG.mono fun k S2 μ2 H2 _ s2 e2 q2 kv rk => ?_⟩⟩
    have r2 := r1.ext e2 s2
    obtain ⟨a', kvs, g1, g2, g3, g4, g5⟩ := own_dt r2 he
    rw [h1] at g1
    cases g1
    cases k with
    | tup ys =>
      dsimp only at q2
      cases hk : keyVs ys with
      | none => rw [hk] at q2; exact q2.elim
      | some kq =>
        rw [hk] at q2
        dsimp only at q2
        split at q2
        · rename_i hl
          subst g4
          cases rk with
          | @tup _ b vs k1 k2 k3 =>
            obtain ⟨p1, p2⟩ := putT_ok (k := kq) (rv.mono e2.kp) g5
            obtain ⟨r3, e3⟩ := r2.upd he h1 (y := .dt (putT (kvs.map (·.1)) xs kq v).1 (putT (kvs.map (·.1)) xs kq v).2) (o := .dT (putK kvs kq vv)) (.dt p1 p2)
            have hlen : kvs.length < sizeLine := by
              rw [sizeLine_eq, ← List.length_map (f := (·.1))]
              exact hl
            exact ⟨a, _, rfl, DPut.t g3 (by rw [k1, keyVs_rep hk k3]) hlen, q2 ω μ2 σ _ r3 e3⟩
        · exact q2.elim
    | _ => exact q2.elim
  · exact q.elim
end
end Dm

set_option Elab.async false
set_option linter.all false
set_option maxRecDepth 100000
set_option autoImplicit false
set_option maxHeartbeats 1000000
/-! DmVh: the steps of the mirrors of DmWh and DmDt. -/
namespace Dm
open PySem PySem.Spec L2
section
variable {env : List Sv} {S : Sto} {Q : Vl → Sto → Prop} {QF : Fl → Sto → Prop} {ma mb mo mi mv m : EM} {i : Nat} {s2 b : SM} {tt : TM}
theorem w_getM (h : Ret (ma env S) fun x S1 => ∃ ks xs, look S1 x = .dk ks xs ∧ Ret (mb env S1) fun y S2 => ∃ ks xs k, look S2 x = .dk ks xs ∧ keyV y = some k ∧ Q ((dkGet ks xs k).getD .non) S2) : Ret (getM ma mb env S) Q := h.bind fun x S1 h => by
  obtain ⟨ks, xs, e1, h⟩ := h
  rw [e1]
  refine h.bind fun y S2 h => ?_
  obtain ⟨ks, xs, k, e2, e3, q⟩ := h
  rw [e2]
  dsimp only
  rw [e3]
  exact ⟨_, _, rfl, q⟩
theorem w_setDR (h : Ret (mv env S) fun x S1 => Ret (mo env S1) fun o S2 => Ret (mi env S2) fun j S3 => ∃ n ks xs k, o = .ref n ∧ S3[n]? = some (.dk ks xs) ∧ keyV j = some k ∧ ks.length < 16777216 ∧ QF (.nx env) (S3.set n (.dk (putV ks xs k x).1 (putV ks xs k x).2))) : Ret (setDR mo mi mv env S) QF := h.bind fun x S1 h => h.bind fun o S2 h => h.bind fun j S3 h => by
  obtain ⟨n, ks, xs, k, rfl, e1, e2, hl, q⟩ := h
  dsimp only
  rw [e1]
  dsimp only
  rw [e2]
  dsimp only
  rw [if_pos hl]
  exact ⟨_, _, rfl, q⟩
theorem w_qsetDR (h : Ret (mv env S) fun x S1 => Ret (mo env S1) fun o S2 => Ret (mi env S2) fun j S3 => ∃ n ks xs k, o = .ref n ∧ S3[n]? = some (.dk ks xs) ∧ keyV j = some k ∧ ks.length < 16777216 ∧ Ret (s2 env (S3.set n (.dk (putV ks xs k x).1 (putV ks xs k x).2))) QF) : Ret (seqS (setDR mo mi mv) s2 env S) QF := w_seq (w_setDR h)
theorem w_appRr (h : ∃ n ys, env[i]? = some (.v (.ref n)) ∧ S[n]? = some (.lst ys) ∧ Ret (m env S) fun x S1 => ∃ xs, S1[n]? = some (.lst xs) ∧ xs.length < 16777216 ∧ QF (.nx env) (S1.set n (.lst (xs ++ [x])))) : Ret (appR i m env S) QF := by
  obtain ⟨n, ys, e1, e2, h⟩ := h
  unfold appR
  rw [e1]
  dsimp only
  rw [e2]
  refine h.bind fun x S1 h => ?_
  obtain ⟨xs, e3, hl, q⟩ := h
  rw [e3]
  dsimp only
  rw [if_pos hl]
  exact ⟨_, _, rfl, q⟩
theorem w_qappRr (h : ∃ n ys, env[i]? = some (.v (.ref n)) ∧ S[n]? = some (.lst ys) ∧ Ret (m env S) fun x S1 => ∃ xs, S1[n]? = some (.lst xs) ∧ xs.length < 16777216 ∧ Ret (s2 env (S1.set n (.lst (xs ++ [x])))) QF) : Ret (seqS (appR i m) s2 env S) QF := w_seq (w_appRr h)
theorem w_popE (h : ∃ n xs y, env[i]? = some (.v (.ref n)) ∧ S[n]? = some (.lst xs) ∧ xs[xs.length - 1]? = some y ∧ Q y (S.set n (.lst xs.dropLast))) : Ret (popE i env S) Q := by
  obtain ⟨n, xs, y, e1, e2, e3, q⟩ := h
  unfold popE
  rw [e1]
  dsimp only
  rw [e2]
  dsimp only
  rw [e3]
  exact ⟨_, _, rfl, q⟩
theorem w_setDT {ks : List (List Key)} {xs : List Vl} (he : env[i]? = some (.ow (.dt ks xs))) (h : Ret (mv env S) fun v S1 => Ret (mi env S1) fun k S2 => ∃ ys q, k = .tup ys ∧ keyVs ys = some q ∧ ks.length < 16777216 ∧ QF (.nx (env.set i (.ow (.dt (putT ks xs q v).1 (putT ks xs q v).2)))) S2) : Ret (setDT i mi mv env S) QF := by
  unfold setDT
  rw [he]
  refine h.bind fun v S1 h => h.bind fun k S2 h => ?_
  obtain ⟨ys, q, rfl, e, hl, h⟩ := h
  dsimp only
  rw [e]
  dsimp only
  rw [if_pos hl]
  exact ⟨_, _, rfl, h⟩
/-- the fuel counts down -/
theorem while_ret (I : Nat → List Sv → Sto → Prop) (h0 : ∀ env S, ¬ I 0 env S) (st : ∀ f env S, I (f + 1) env S → Ret (tt env S) fun c S1 => (c = true → Ret (b env S1) fun fl S2 => ∃ e2, (fl = .nx e2 ∨ fl = .ct e2) ∧ I f e2 S2) ∧ (c = false → QF (.nx env) S1)) :
    ∀ f env S, I f env S → Ret (whileS tt b f env S) QF
  | 0, env, S, h => absurd h (h0 env S)
  | f + 1, env, S, h => by
    unfold whileS
    refine (st f env S h).bind fun c S1 ⟨ht, hf⟩ => ?_
    cases c with
    | false =>
      rw [if_neg Bool.false_ne_true]
      exact ⟨_, _, rfl, hf rfl⟩
    | true =>
      rw [if_pos rfl]
      refine (ht rfl).bind fun fl S2 ⟨e2, he, hi⟩ => ?_
      rcases he with rfl | rfl
      · exact while_ret I h0 st f e2 S2 hi
      · exact while_ret I h0 st f e2 S2 hi
end
end Dm

set_option Elab.async false
set_option linter.all false
set_option maxRecDepth 100000
set_option autoImplicit false
set_option maxHeartbeats 1000000
/-! DmFz: new shared objects taken as own ones (popN), dicts that are never changed any more (popZ), loops over these. -/
namespace Dm
open PySem PySem.Spec L2 PyProof.Rows
section
variable {K : PySem.W.Frag} {cl : Cl} {W W' : Addr → Prop} {μ μ1 : List Addr} {S1 : Sto} {H H1 H2 : Hp} {k : Nat} {a : Addr}
theorem pop_len (e1 : Ext μ H μ1 H1) : μ.length ≤ μ1.length := by
  cases hk : μ.length with
  | zero => exact Nat.zero_le _
  | succ k =>
    have := e1.pre k _ (List.getElem?_eq_getElem (by omega : k < μ.length))
    have := (List.getElem?_eq_some_iff.mp this).1
    omega
theorem pop_num (e1 : Ext μ H μ1 H1) (j : Nat) (b : Addr) (hj : j < μ.length) (e : μ1[j]? = some b) : μ[j]? = some b := by
  have := e1.pre j _ (List.getElem?_eq_getElem hj)
  rw [e] at this
  cases this
  exact List.getElem?_eq_getElem hj
theorem pop_out (s1 : Sim K cl W μ1 S1 H1) (e1 : Ext μ H μ1 H1) (hk : μ.length ≤ k) (ea : μ1[k]? = some a) : a ∉ μ ∧ ¬ W a ∧ H a = none := by
  have n1 : a ∉ μ := fun z => by
    obtain ⟨j, hj⟩ := List.getElem?_of_mem z
    have hjl := (List.getElem?_eq_some_iff.mp hj).1
    have := (List.getElem?_inj (List.getElem?_eq_some_iff.mp ea).1 s1.nd).mp (ea.trans (e1.pre j a hj).symm)
    omega
  refine ⟨n1, s1.dis a (List.mem_of_getElem? ea), ?_⟩
  rcases e1.new a (List.mem_of_getElem? ea) with z | z
  · exact absurd z n1
  · exact z
theorem pop_ban (e1 : Ext μ H μ1 H1) (ea : μ1[k]? = some a) (hW : ∀ b, W' b → W b ∨ b = a) (b : Addr) (z : Bn W' μ b) : Bn W μ1 b := by
  rcases z with z | z
  · obtain ⟨j, hj⟩ := List.getElem?_of_mem z
    exact .inl (List.mem_of_getElem? (e1.pre j b hj))
  · rcases hW b z with z | z
    · exact .inr z
    · rw [z]; exact .inl (List.mem_of_getElem? ea)
theorem pop_kp (ea : μ1[k]? = some a) (h2 : ∀ b o, H1 b = some o → b ≠ a → H2 b = some o) : Kp (Bn W μ1) (Bn W μ1) μ1 μ1 H1 H2 :=
  ⟨fun b o h n => ⟨h2 b o h fun z => n (.inl (by rw [z]; exact List.mem_of_getElem? ea)), n⟩, fun _ _ z => z⟩
theorem pop_reps (e1 : Ext μ H μ1 H1) (ea : μ1[k]? = some a) (hW : ∀ b, W' b → W b ∨ b = a) (h2 : ∀ b o, H1 b = some o → b ≠ a → H2 b = some o) {xs : List Vl} {vs : List V} (hr : rfBs μ.length xs = true) (r : Reps K cl (Bn W μ1) μ1 H1 xs vs) : Reps K cl (Bn W' μ) μ H2 xs vs :=
  (r.mono (pop_kp ea h2)).cut (pop_ban e1 ea hW) (fun j b hj e => pop_num e1 j b hj e) hr
theorem pop_sim (nd : μ.Nodup) (dis : ∀ b ∈ μ, ¬ W b) (s1 : Sim K cl W μ1 S1 H1) (e1 : Ext μ H μ1 H1) (ha : S1.all (rfB μ.length) = true) (hk : μ.length ≤ k) (ea : μ1[k]? = some a) (hW : ∀ b, W' b → W b ∨ b = a) (h2 : ∀ b o, H1 b = some o → b ≠ a → H2 b = some o) (hn : NT (H2 a)) : Sim K cl W' μ (S1.take μ.length) H2 where
  len := by
    have := pop_len e1
    rw [List.length_take, ← s1.len]
    omega
  nd := nd
  dis := fun b hb z => (hW b z).elim (dis b hb) fun z => (pop_out s1 e1 hk ea).1 (z ▸ hb)
  trn := fun b z => by
    rcases hW b z with z | z
    · obtain ⟨o, e, n⟩ := s1.trn b z
      exact ⟨o, h2 b o e fun y => (pop_out s1 e1 hk ea).2.1 (y ▸ z), n⟩
    · rw [z]; exact hn
  obs := fun j y hy => by
    have hj : j < μ.length := by
      have := (List.getElem?_eq_some_iff.mp hy).1
      rw [List.length_take] at this
      omega
    rw [List.getElem?_take_of_lt hj] at hy
    obtain ⟨b, g1, g2⟩ := s1.obs j y hy
    have gb := pop_num e1 j b hj g1
    have hba : b ≠ a := fun z => (pop_out s1 e1 hk ea).1 (z ▸ List.mem_of_getElem? gb)
    exact ⟨b, gb, ((g2.mono (pop_kp ea h2) fun o e => h2 b o e hba).cut (pop_ban e1 ea hW) (fun j b hj e => pop_num e1 j b hj e) (List.all_eq_true.mp ha y (List.mem_of_getElem? hy)))⟩
theorem pop_ext (e1 : Ext μ H μ1 H1) (hH : H a = none) (h2 : ∀ b o, H1 b = some o → b ≠ a → H2 b = some o) (hn : H2 a ≠ none) : Ext μ H μ H2 where
  keep := fun b o e n => h2 b o (e1.keep b o e n) (by
    intro z
    rw [z, hH] at e
    cases e)
  dom := fun b e => by
    by_cases hb : b = a
    · rw [hb]; exact hn
    · have := e1.dom b e
      cases h : H1 b with
      | none => exact absurd h this
      | some o =>
        rw [h2 b o h hb]
        simp
  pre := fun _ _ z => z
  new := fun _ z => .inl z
end
/-- a new shared object becomes an own one -/
def popN (m : EM) : EM := fun env S => match m env S with
  | .ok x S1 => (match x with
    | .ref k => if S1.all (rfB S.length) = true ∧ S.length ≤ k then (match S1[k]? with
      | some y => .ok y (S1.take S.length)
      | none => .bad) else .bad
    | _ => .bad)
  | .exc c ns xs S1 => .exc c ns xs S1
  | .bad => .bad
/-- a new dict is never changed any more -/
def popZ (m : EM) : EM := fun env S => match m env S with
  | .ok x S1 => (match x with
    | .ref k => if S1.all (rfB S.length) = true ∧ S.length ≤ k then (match S1[k]? with
      | some (.dk ks xs) => .ok (.fdk ks xs) (S1.take S.length)
      | some (.dt ks xs) => .ok (.fdt ks xs) (S1.take S.length)
      | _ => .bad) else .bad
    | _ => .bad)
  | .exc c ns xs S1 => .exc c ns xs S1
  | .bad => .bad
section
variable {X : Cx} {cl : Cl} {E : XK} {e : Expr} {m : EM}
theorem _root_.L2.PE.frz {t : TE} (h : PE X e t) : PE X e (fun σ H Q => t σ H fun v H1 => Q v H1 ∨ ∃ d u, v = .ref d ∧ H1 d = some u ∧ Mut (some u) ∧ ∀ od, Q v (upd H1 d (.frz od u))) := ⟨fun pins s σ H Q I q => thn (h.run pins s σ H _ I q) fun v s1 ⟨x, H1, I1, r, z⟩ => z.elim (fun z => ⟨x, H1, I1, r, z⟩) fun ⟨d, u, e, hd, hm, k⟩ => by
  obtain ⟨od, I2⟩ := I1.lock hd hm
  exact ⟨x, _, I2, r, k od⟩⟩
theorem dn_popN (h : PE X e (tD X.K cl E m)) : PE X e (tN X.K cl E (popN m)) := h.imp fun σ H Q ⟨W, ω, μ, S, env, rl, q⟩ => by
  refine ⟨W, ω, μ, S, env, rl, ?_⟩
  unfold popN at q
  cases hm : m env S with
  | bad => rw [hm] at q; exact q.elim
  | exc c ns xs S1 => rw [hm] at q; exact q
  | ok x S1 =>
    rw [hm] at q
    cases x with
    | ref k =>
      dsimp only at q
      split at q
      · rename_i hc
        obtain ⟨ha, hk⟩ := hc
        cases hg : S1[k]? with
        | none => rw [hg] at q; exact q.elim
        | some y =>
          rw [hg] at q
          rw [← rl.sim.len] at q ha hk
          intro μ1 H1 s1 e1 v rv
          cases rv with
          | @ref _ a ea =>
            obtain ⟨b, e2, at_⟩ := s1.obs k y hg
            rw [ea] at e2
            cases e2
            obtain ⟨o1, o2, o3⟩ := pop_out s1 e1 hk ea
            have h2 : ∀ b o, H1 b = some o → b ≠ a → H1 b = some o := fun _ _ e _ => e
            have hW : ∀ b, Wa (Wo W ω) a b → Wo W ω b ∨ b = a := fun _ z => z
            exact q μ H1 (pop_sim rl.sim.nd rl.sim.dis s1 e1 ha hk ea (fun _ z => .inl z) h2 at_.nt) (pop_ext e1 o3 h2 at_.there) a o3 (pop_sim rl.sim.nd rl.sim.dis s1 e1 ha hk ea hW h2 at_.nt)
              (at_.cut (pop_ban e1 ea hW) (fun j b hj e => pop_num e1 j b hj e) (List.all_eq_true.mp ha y (List.mem_of_getElem? hg)))
      · exact q.elim
    | _ => exact q.elim
theorem de_popZ (h : PE X e (tD X.K cl E m)) : PE X e (tD X.K cl E (popZ m)) := h.frz.imp fun σ H Q ⟨W, ω, μ, S, env, rl, q⟩ => by
  refine ⟨W, ω, μ, S, env, rl, ?_⟩
  unfold popZ at q
  cases hm : m env S with
  | bad => rw [hm] at q; exact q.elim
  | exc c ns xs S1 => rw [hm] at q; exact q
  | ok x S1 =>
    rw [hm] at q
    cases x with
    | ref k =>
      dsimp only at q
      split at q
      · rename_i hc
        obtain ⟨ha, hk⟩ := hc
        cases hg : S1[k]? with
        | none => rw [hg] at q; exact q.elim
        | some y =>
          rw [hg] at q
          rw [← rl.sim.len] at q ha hk
          have hry := List.all_eq_true.mp ha y (List.mem_of_getElem? hg)
          cases y with
          | dk ks ys =>
            intro μ1 H1 s1 e1 v rv
            cases rv with
            | @ref _ a ea =>
              obtain ⟨b, e2, at_⟩ := s1.obs k _ hg
              rw [ea] at e2
              cases e2
              obtain ⟨o1, o2, o3⟩ := pop_out s1 e1 hk ea
              cases at_ with
              | @dk _ _ kvs g1 g2 g3 =>
                refine .inr ⟨a, _, rfl, g1, trivial, fun od => ?_⟩
                have h2 : ∀ b o, H1 b = some o → b ≠ a → upd H1 a (.frz od (.dK kvs)) b = some o := fun b o e n => by rw [upd_ne n]; exact e
                have hn : NT (upd H1 a (.frz od (.dK kvs)) a) := ⟨_, upd_same, fun _ z => nomatch z⟩
                exact q μ _ (pop_sim rl.sim.nd rl.sim.dis s1 e1 ha hk ea (fun _ z => .inl z) h2 hn) (pop_ext e1 o3 h2 (by rw [upd_same]; simp)) _ (.fdk upd_same (fun z => z.elim o1 o2) g2 (pop_reps e1 ea (fun _ z => .inl z) h2 (by simpa [rfB] using hry) g3))
          | dt ks ys =>
            intro μ1 H1 s1 e1 v rv
            cases rv with
            | @ref _ a ea =>
              obtain ⟨b, e2, at_⟩ := s1.obs k _ hg
              rw [ea] at e2
              cases e2
              obtain ⟨o1, o2, o3⟩ := pop_out s1 e1 hk ea
              cases at_ with
              | @dt _ _ kvs g1 g2 g3 =>
                refine .inr ⟨a, _, rfl, g1, trivial, fun od => ?_⟩
                have h2 : ∀ b o, H1 b = some o → b ≠ a → upd H1 a (.frz od (.dT kvs)) b = some o := fun b o e n => by rw [upd_ne n]; exact e
                have hn : NT (upd H1 a (.frz od (.dT kvs)) a) := ⟨_, upd_same, fun _ z => nomatch z⟩
                exact q μ _ (pop_sim rl.sim.nd rl.sim.dis s1 e1 ha hk ea (fun _ z => .inl z) h2 hn) (pop_ext e1 o3 h2 (by rw [upd_same]; simp)) _ (.fdt upd_same (fun z => z.elim o1 o2) g2 (pop_reps e1 ea (fun _ z => .inl z) h2 (by simpa [rfB] using hry) g3))
          | _ => exact q.elim
      · exact q.elim
    | _ => exact q.elim
/-! ### loops over such dicts -/
def LenD (H : Hp) : Prop := (∀ a kvs, Rd H a (.dK kvs) → kvs.length ≤ sizeLine) ∧ ∀ a kvs, Rd H a (.dT kvs) → kvs.length ≤ sizeLine
theorem lenD_of {pins : List (Addr × Obj)} {σ : L2.St} {H : Hp} {s : Shared} (I : Inv X pins σ H s) : LenD H := ⟨fun _ _ h => (dk_rd I.hok h).1, fun _ _ h => (dt_rd I.hok h).1⟩
theorem pi_lenD {tg : Expr} {wi : TI} (h : PI X tg e wi) : PI X tg e (fun σ H R => wi σ H fun J H1 => LenD H1 → R J H1) := ⟨fun pins s σ H R I hw => thn (h.run pins s σ H _ I hw) fun v s1 h1 => thn h1 fun itv s2 ⟨it, fp, tn, J, H', e, I', T, st, f, r⟩ => ⟨it, fp, tn, J, H', e, I', T, st, f, r (lenD_of I')⟩⟩
end
section
variable {K : PySem.W.Frag} {cl : Cl} {N B : Addr → Prop} {μ : List Addr} {H : Hp} {d : Addr} {o : Obj}
theorem it_keysT {kvs : List (List Key × V)} (l : LenD H) (h : H d = some (.frz o (.dT kvs))) (n : ¬ N d) : ItOk K cl (Itkt d o kvs) N B μ H ((kvs.map (·.1)).map keyT) := by
  refine ⟨by rw [List.length_map, List.length_map]; exact l.2 d kvs (.inr ⟨o, h⟩), fun i H' hi k => ⟨k d _ h n, by simpa using hi⟩, fun H' k => ⟨k d _ h n, by simp⟩, fun i H' v H2 B' μ' hi k kp bt y => ?_⟩
  obtain ⟨e1, q, w, c, e2, e3, e4⟩ := y
  refine ⟨keyT q, by rw [List.getElem?_map, List.getElem?_map, e2]; rfl, ?_, .inl e1⟩
  rw [e3, e1]
  exact .tup e4 (fun z => by obtain ⟨_, g1, g2⟩ := bt c z; rw [e4] at g1; cases g1; exact g2 _ rfl) (keyU_rep q)
def itL : List Key → List Vl → List Vl
  | k :: ks, x :: xs => .tup [keyU k, x] :: itL ks xs
  | _, _ => []
theorem keyU_one {B : Addr → Prop} : ∀ k : Key, Rep K cl B μ H (keyU k) (kV k)
  | .inl i => .int i
  | .inr s => .str s
theorem itL_get : ∀ {kvs : List (Key × V)} {xs : List Vl} {i : Nat} {k : Key} {v : V}, Reps K cl B μ H xs (kvs.map (·.2)) → kvs[i]? = some (k, v) → ∃ x, (itL (kvs.map (·.1)) xs)[i]? = some (.tup [keyU k, x]) ∧ Rep K cl B μ H x v
  | [], _, _, _, _, _, e => by simp at e
  | (k, v) :: kvs, _, 0, _, _, .cons r _, e => by
    simp at e
    obtain ⟨rfl, rfl⟩ := e
    exact ⟨_, rfl, r⟩
  | p :: kvs, _, i + 1, _, _, .cons _ t, e => by
    obtain ⟨x, h1, h2⟩ := itL_get (i := i) t (by simpa using e)
    exact ⟨x, by simpa [itL] using h1, h2⟩
theorem itL_length : ∀ {kvs : List (Key × V)} {xs : List Vl}, Reps K cl B μ H xs (kvs.map (·.2)) → (itL (kvs.map (·.1)) xs).length = kvs.length
  | [], _, .nil => rfl
  | p :: kvs, _, .cons _ t => congrArg Nat.succ (itL_length t)
theorem it_items {kvs : List (Key × V)} {xs : List Vl} (l : LenD H) (h : H d = some (.frz o (.dK kvs))) (n : ¬ N d) (r : Reps K cl B μ H xs (kvs.map (·.2))) : ItOk K cl (Iti d o kvs) N B μ H (itL (kvs.map (·.1)) xs) := by
  have hl := itL_length r
  refine ⟨by rw [hl]; exact l.1 d kvs (.inr ⟨o, h⟩), fun i H' hi k => ⟨k d _ h n, by omega⟩, fun H' k => ⟨k d _ h n, by omega⟩, fun i H' v H2 B' μ' hi k kp bt y => ?_⟩
  obtain ⟨T, q, w, e1, e2, e3, e4⟩ := y
  obtain ⟨x, g1, g2⟩ := itL_get r e1
  have kt := kp_new (B' := B') (μ' := μ') (o := .tup [kV q, w]) e3
  refine ⟨_, g1, ?_, .inr ⟨T, _, e3, e4⟩⟩
  rw [e2, e4]
  exact .tup upd_same (fun z => (bt T z).ne e3) (.cons (keyU_one q) (.cons ((g2.mono kp).mono kt) .nil))
end
/-- for k in d -/
def keysI (m : EM) : IM := fun env S => (m env S).bind fun x S1 => match x with
  | .fdt ks _ => .ok (ks.map keyT) S1
  | _ => .bad
/-- for k, v in d.items() -/
def itemsI (m : EM) : IM := fun env S => (m env S).bind fun x S1 => match x with
  | .fdk ks xs => .ok (itL ks xs) S1
  | _ => .bad
section
variable {X : Cx} {cl : Cl} {E : XK} {e : Expr} {m : EM}
theorem nn_of {st : Bool} {W : Addr → Prop} {ω : List (Option Addr)} {μ1 : List Addr} {a : Addr} (n : ¬ Bn (Wo W ω) μ1 a) : ¬ Nn st ω μ1 a := fun z => z.elim (fun z => n (.inl z)) fun z => n (.inr (.inr z.2))
theorem di_keys {st : Bool} {tg : Expr} (h : PE X e (tD X.K cl E m)) : PI X tg e (tI st X.K cl E (keysI m)) :=
  (pi_lenD (pi_keys h)).imp fun σ H R ⟨W, ω, μ, S, env, rl, q⟩ => ⟨W, ω, μ, S, env, rl, q.bind.mono fun x S1 μ1 H1 _ s1 e1 q1 v rv => by
    cases x with
    | fdt ks xs =>
      cases rv with
      | @fdt _ _ a kvs o g1 g2 g3 g4 =>
        subst g3
        exact ⟨a, o, rfl, .inr ⟨kvs, g1, fun l => q1 μ1 H1 s1 Ext.refl _ (it_keysT l g1 (nn_of g2))⟩⟩
    | _ => exact q1.elim⟩
theorem di_items {st : Bool} {elts : List Expr} {kk : Nat} {tpos apos cpos : Pos} (h : PE X e (tD X.K cl E m)) (hbase : attributeBase e "items" X.env (eval e X.env) = eval e X.env := by rfl) (hline : (apos.endLine == cpos.line) = true := by rfl) : PI X (.Tuple elts kk tpos) (.Call (.Attribute e "items" apos) [] [] cpos) (tI st X.K cl E (itemsI m)) :=
  (pi_lenD (pi_items h hbase hline)).imp fun σ H R ⟨W, ω, μ, S, env, rl, q⟩ => ⟨W, ω, μ, S, env, rl, q.bind.mono fun x S1 μ1 H1 _ s1 e1 q1 v rv => by
    cases x with
    | fdk ks xs =>
      cases rv with
      | @fdk _ _ a kvs o g1 g2 g3 g4 =>
        subst g3
        exact ⟨a, o, kvs, rfl, g1, fun l => q1 μ1 H1 s1 Ext.refl _ (it_items l g1 (nn_of g2) g4)⟩
    | _ => exact q1.elim⟩
end
/-! ### len(d) -/
section
variable {X : Cx} {cl : Cl}
theorem call_lenT : CallR X (.builtin "len") (fun xs H Q => ∃ (a : Addr) (kvs : List (List Key × V)), xs = [.ref a] ∧ Rd H a (.dT kvs) ∧ Q (.int ((kvs.length : Nat) : Int)) H) := by
  intro pins s σ H xs us Q I r q
  obtain ⟨a, kvs, ex, hd, q⟩ := q
  subst ex
  obtain ⟨u, eu, rx⟩ := vals1 r
  subst eu
  cases rx
  obtain ⟨z, lo, ys, rel, hD⟩ := dt_rd I.hok hd
  obtain ⟨o, es, ep, ho, hc, hdt, he, his, hn⟩ := hD
  have hlen : (pairsH ys).length = kvs.length := by
    have := Paired.length rel
    simp [pairsH]
    omega
  refine call_len_slot (n := kvs.length) ⟨o, ho, hc.1⟩ PySem.F.slot_dict_len (fun Q' hq => len_keyed lo ⟨ys, ⟨o, es, ep, ho, hc, hdt, he, his, hn⟩, rfl⟩ (by rw [hlen]; exact hq)) (by omega) (by rw [sizeLine_eq] at z; omega) ?_
  exact ⟨.int kvs.length, H, I.kept (t' := _) fun b u e => e, ⟨_, rfl⟩, q⟩
def lenTF : FA := fun S xs => match xs with
  | [x] => (match dtOf (look S x) with
    | some ks => some (.int ks.length)
    | none => none)
  | _ => none
theorem s_lenT : OpA X cl (fun xs H Q => ∃ (a : Addr) (kvs : List (List Key × V)), xs = [.ref a] ∧ Rd H a (.dT kvs) ∧ Q (.int ((kvs.length : Nat) : Int)) H) lenTF := fun W ω μ S H xs z vs Q s r h k => by
  unfold lenTF at h
  split at h
  · obtain ⟨v, rfl, rv⟩ := repsL1 r
    have rr := repR_of s rv
    revert h rr
    generalize look S _ = x'
    intro h rr
    cases hx : dtOf x' with
    | none => rw [hx] at h; cases h
    | some ks =>
      rw [hx] at h
      cases h
      obtain ⟨a, kvs, rfl, h1, h2⟩ := repR_dtO hx rr
      subst h2
      rw [List.length_map] at k
      exact ⟨a, kvs, rfl, h1, k H _ s Ext.refl (.int _)⟩
  · cases h
end
end Dm

set_option Elab.async false
set_option linter.all false
set_option maxRecDepth 100000
set_option autoImplicit false
set_option maxHeartbeats 1000000
/-! DmSl: sorted(xs) of a list of tuples of ints, any length; xs[::-1]. -/
namespace Dm
open PySem PySem.Spec L2 PyProof.Rows
def rSortLT (K : PySem.W.Frag) : List V → Hp → VK → Prop := fun xs H Q => ∃ (a : Addr) (cs : List Addr) (nss : List (List Int)) (d : Nat) (B : Int), xs = [.ref a] ∧ SqL K H a (cs.map V.ref) ∧ Hold H (nss.map fun ns => (ns.map Sum.inl : List Key)) cs ∧ (∀ ns ∈ nss, ns.length = d ∧ TS.Bd B ns) ∧ (1 ≤ d ∨ nss.length < 2) ∧
  ∀ (cs : List Addr) (mss : List (List Int)) (p : Addr), mss.Perm nss → mss.Pairwise (fun x y => TS.code B x ≤ TS.code B y) → Hold H (mss.map fun ns => (ns.map Sum.inl : List Key)) cs → H p = none → Q (.ref p) (upd H p (.lst (cs.map V.ref)))
section
variable {X : Cx}
theorem vals_refs : ∀ {cs : List Addr} {vs : List Value}, Vals (cs.map V.ref) vs → vs = cs.map Value.ref
  | [], _, .nil => rfl
  | c :: cs, _, .cons r t => by
    cases r
    rw [List.map_cons, vals_refs t]
theorem call_sortLT (hcalm : X.calm = true) : CallR X (.builtin "sorted") (rSortLT X.K) := by
  intro pins s σ H xs us Q I r q
  obtain ⟨a, cs, nss, d, B, ex, hdt, hh, hall, hd1, q⟩ := q
  subst ex
  obtain ⟨u, eu, rx⟩ := vals1 r
  subst eu
  cases rx
  obtain ⟨vs, rv, pl, hz⟩ := I.list hdt
  have ea := vals_refs rv
  obtain ⟨hk1, hk2⟩ := hold_kOf hh
  have z : cs.length ≤ sizeLine := by rw [List.length_map] at hz; exact hz
  refine Calls.call_function_entry PyProof.Rows.kind_sorted PyProof.Rows.plain_sorted PyProof.Rows.entry_sorted (PyProof.Rows.args_sorted1 _) ?_
  unfold Builtin.«sorted»
  refine wpAny_bind (m := checkCount "sorted" 1 1 _) (wpAny_pure ?_)
  refine wpAny_bind (PyProof.Rows.collect_list pl.isList ?_ (by rw [ea, List.length_map]; exact z))
  have hk : ∀ b o, s.heap.get? b = some o → ((s.heap.push (PyProof.Rows.seqObj "list" #[] 0)).update s.heap.objs.size (Obj.mapSeq fun x => x ++ vs.toArray)).get? b = some o := fun b o e => by
    rw [Heap.get?_update_ne _ _ _ _ (Nat.ne_of_lt (Heap.lt_size e))]
    exact Heap.get?_push_of_some _ e
  generalize (s.heap.push (PyProof.Rows.seqObj "list" #[] 0)).update s.heap.objs.size (Obj.mapSeq fun x => x ++ vs.toArray) = h' at hk
  generalize s.toks = tk
  have hal : vs.length = cs.length := by rw [ea, List.length_map]
  have I1 : Inv X pins σ H { s with heap := h', toks := tk } := I.kept hk
  refine wpAny_bind (wpAny_newList ?_ (by rw [hal]; exact z))
  have hoL : (h'.push (seqObj "list" vs.toArray 0)).get? h'.objs.size = some (seqObj "list" vs.toArray 0) := Heap.get?_push_size _ rfl
  show wpAny _ _ _ _ _ { s with heap := h'.push (seqObj "list" vs.toArray 0), toks := tk }
  have kp : ∀ b o, h'.get? b = some o → (h'.push (seqObj "list" vs.toArray 0)).get? b = some o := fun b o e => Heap.get?_push_of_some _ e
  have htup : ∀ c ∈ cs, TS.TupInts (h'.push (seqObj "list" vs.toArray 0)) (.ref c) (kOf H c) := fun c hc => (tupInts_of I1.hok (hk2 c hc)).keeps fun b o e _ => kp b o e
  let rk : Value → Int := fun v => TS.code B (kOf H (adOf v))
  have hmem : ∀ v ∈ vs, ∃ c ∈ cs, v = .ref c := fun v hv => by
    rw [ea] at hv
    obtain ⟨c, hc, e⟩ := List.mem_map.mp hv
    exact ⟨c, hc, e.symm⟩
  have hlk : ∀ c ∈ cs, (kOf H c).length = d ∧ TS.Bd B (kOf H c) := fun c hc => hall _ (by rw [hk1]; exact List.mem_map_of_mem hc)
  refine wpAny_bind (wpAny_holding (wpAny_call_entry PyProof.Rows.slot_list_sort ⟨_, hoL, rfl⟩ PyProof.Rows.entry_list_sort
    (SrtO.list_sort_ord (s := { s with heap := h'.push (seqObj "list" vs.toArray 0), toks := tk }) (swo_rk rk) hoL (by rw [hal]; exact z) (fun h2 => ?_) fun out h1 h2 => ⟨_, rfl, ?_⟩) (PyProof.Rows.args_list_sort _)))
  · refine tups_sortable (s := { s with heap := h'.push (seqObj "list" vs.toArray 0), toks := tk }) (d := d) (B := B) ?_ (by omega) (fun v hv => ?_) rk (fun v hv ns tn => ?_) fun o e => ?_
    · rcases hd1 with g | g
      · exact g
      · rw [hk1, List.length_map, ← hal] at g
        omega
    · obtain ⟨c, hc, rfl⟩ := hmem v hv
      exact ⟨_, htup c hc, hlk c hc⟩
    · obtain ⟨c, hc, rfl⟩ := hmem v hv
      show TS.code B (kOf H c) = _
      have e := (htup c hc).ints
      rw [tn.ints] at e
      rw [e]
    · have e' : some o = some (seqObj "list" vs.toArray 0) := e.symm.trans hoL
      cases e'
      intro c
      exact absurd (Value.type.inj c) (by decide)
  · obtain ⟨e', he'⟩ := PyProof.Rows.sortedHeap_at (vs := vs) (out := out.toArray) hoL
    have hp : (out.map adOf).Perm cs := by
      have q1 := h2.perm.map adOf
      rw [ea, List.map_map] at q1
      have e : cs.map (adOf ∘ Value.ref) = cs := List.map_id cs
      rwa [e] at q1
    have hout : out = (out.map adOf).map Value.ref := by
      rw [List.map_map]
      have e : out.map (Value.ref ∘ adOf) = out.map id := List.map_congr_left fun v hv => by
        obtain ⟨c, _, rfl⟩ := hmem v (h2.perm.mem_iff.mp hv)
        rfl
      rw [e, List.map_id]
    have hv : Vals ((out.map adOf).map V.ref) out := by
      have : Vals ((out.map adOf).map V.ref) ((out.map adOf).map Value.ref) := by
        generalize out.map adOf = l
        induction l with
        | nil => exact .nil
        | cons c l ih => exact .cons rfl ih
      rwa [← hout] at this
    have hlen : ((out.map adOf).map V.ref).length ≤ sizeLine := by
      rw [List.length_map, hp.length_eq]
      exact z
    refine wpAny_pure ⟨_, rfl, .ref h'.objs.size, upd H h'.objs.size (.lst ((out.map adOf).map V.ref)), I1.laid (t' := tk) (fun b u e => ?_) (Nat.le_refl _)
      (show ObjOk X.prog X.w _ _ _ (.lst ((out.map adOf).map V.ref)) from ⟨hlen, out, e', hv, he'⟩), rfl, q (out.map adOf) ((out.map adOf).map (kOf H)) _ ?_ ?_ (kOf_hold fun c hc => hk2 c (hp.mem_iff.mp hc)) (I1.hok.fresh (Nat.le_refl _))⟩
    · have hb : b < h'.objs.size := Heap.lt_size e
      rw [PyProof.Rows.sortedHeap_old (Nat.ne_of_lt hb) (by rw [size_push']; exact Nat.lt_succ_of_lt hb)]
      exact Heap.get?_push_of_some _ e
    · rw [hk1]
      exact hp.map _
    · rw [List.pairwise_map, List.pairwise_map]
      exact h1.imp fun {x y} g => by
        have := of_decide_eq_false (p := rk y < rk x) g
        show rk x ≤ rk y
        omega
end
def tupIs : List Vl → Option (List (List Int))
  | [] => some []
  | .tup xs :: r => match nums xs, tupIs r with
    | some n, some ns => some (n :: ns)
    | _, _ => none
  | _ => none
def sortLF : FA := fun S xs => match xs with
  | [x] => (match look S x with
    | .lst ys => (match tupIs ys with
      | some nss => if okT nss = true then some (.lst ((isortB cod nss).map tupI)) else none
      | none => none)
    | _ => none)
  | _ => none
theorem tupIs_rep {K : PySem.W.Frag} {cl : Cl} {B : Addr → Prop} {μ : List Addr} {H : Hp} : ∀ {ys : List Vl} {vs : List V} {nss : List (List Int)}, Reps K cl B μ H ys vs → tupIs ys = some nss → ∃ cs : List Addr, vs = cs.map V.ref ∧ Hold H (nss.map fun ns => (ns.map Sum.inl : List Key)) cs
  | _, _, _, .nil, h => by cases h; exact ⟨[], rfl, True.intro⟩
  | _, _, nss, .cons (x := x) (xs := r) r1 t, h => by
    cases x with
    | tup xs =>
      unfold tupIs at h
      cases h1 : nums xs with
      | none => rw [h1] at h; cases h
      | some n =>
        cases h2 : tupIs r with
        | none => rw [h1, h2] at h; cases h
        | some ns =>
          rw [h1, h2] at h
          cases h
          obtain ⟨cs, e1, e2⟩ := tupIs_rep t h2
          cases r1 with
          | @tup _ a vs' g1 g2 g3 =>
            refine ⟨a :: cs, by rw [e1]; rfl, ?_, e2⟩
            rw [g1, nums_rep g3 h1, List.map_map]
            rfl
    | _ => cases h
section
variable {X : Cx} {cl : Cl}
theorem s_sortL : OpAN X cl (rSortLT X.K) sortLF := fun W ω μ S H xs z vs Q s r h k => by
  unfold sortLF at h
  split at h
  · obtain ⟨v, rfl, rv⟩ := repsL1 r
    have rr := repR_of s rv
    revert h rr
    generalize look S _ = x'
    intro h rr
    cases x' with
    | lst ys =>
      dsimp only at h
      cases hn : tupIs ys with
      | none => rw [hn] at h; cases h
      | some nss =>
        rw [hn] at h
        dsimp only at h
        split at h
        · rename_i ho
          cases h
          obtain ⟨o1, o2⟩ := okT_ok ho
          obtain ⟨a, ws, rfl, h1, h2⟩ := repR_lst rr
          obtain ⟨cs0, rfl, hh0⟩ := tupIs_rep h2 hn
          refine ⟨a, cs0, nss, _, B64, rfl, .of h1, hh0, o1, o2, fun cs mss p hp hs hh hpn => ?_⟩
          have e : mss = isortB cod nss := sortedB_uniq (f := cod) (hp.trans (isortB_perm nss).symm) (fun x hx y hy exy => by
            obtain ⟨x1, x2⟩ := o1 x (hp.mem_iff.mp hx)
            obtain ⟨y1, y2⟩ := o1 y (hp.mem_iff.mp hy)
            exact code_inj (x1.trans y1.symm) x2 y2 exy) hs (isortB_sorted nss)
          subst e
          have rr := hold_rep s hh
          rw [List.map_map] at rr
          have e2 : (isortB cod nss).map (keyT ∘ fun ns => (ns.map Sum.inl : List Key)) = (isortB cod nss).map tupI := List.map_congr_left fun ns _ => keyT_int ns
          rw [e2] at rr
          exact k p _ hpn (.lst rr)
        · cases h
    | _ => cases h
  · cases h
/-! ### xs[::-1] -/
variable {E : XK} {e : Expr} {m : EM}
def revN (m : EM) : EM := fun env S => (m env S).bind fun x S1 => match look S1 x with
  | .lst ys => .ok (.lst ys.reverse) S1
  | _ => .bad
theorem dn_rev {pos p1 p2 p3 : Pos} {k : Nat} (h : PE X e (tL X.K cl E m)) : PE X (.Subscript e (.Slice none none (some (.UnaryOp .USub (.Constant (.int 1) k p1) p2)) p3) pos) (tN X.K cl E (revN m)) := (pe_revL h).imp fun σ H Q ⟨W, ω, μ, S, env, rl, q⟩ => by
  refine ⟨W, ω, μ, S, env, rl, q.bind.mono fun x S1 μ1 H1 _ s1 e1 q1 v rv => ?_⟩
  have rr := repR_of s1 rv
  revert q1 rr
  generalize look S1 x = x'
  intro q1 rr
  cases x' with
  | lst xs =>
    obtain ⟨p, vs, rfl, h1, h2⟩ := repR_lst rr
    exact ⟨p, vs, rfl, .of h1, fun t ht => q1 μ1 _ (s1.fresh ht) (Ext.fresh ht) t (fresh_back e1 ht) (s1.freshBan ht fun z => s1.tracked (.inl z) ht) (.lst upd_same (h2.reverse.mono (Ext.kpBan ht)))⟩
  | _ => exact q1.elim
end
end Dm

set_option Elab.async false
set_option linter.all false
set_option maxRecDepth 100000
set_option autoImplicit false
set_option maxHeartbeats 1000000
/-! DmFv: plain tools for DmFz, DmSl. -/
namespace Dm
open PySem PySem.Spec L2
section
variable {env : List Sv} {S : Sto} {m : EM} {Q : Vl → Sto → Prop} {QA : List Vl → Sto → Prop} {k : Nat} {y : Vl}
theorem w_popN (h : Ret (m env S) fun x S1 => S1.all (rfB S.length) = true ∧ ∃ k y, x = .ref k ∧ S.length ≤ k ∧ S1[k]? = some y ∧ Q y (S1.take S.length)) : Ret (popN m env S) Q := by
  obtain ⟨x, S1, e, ha, k, y, rfl, hk, hg, q⟩ := h
  unfold popN
  rw [e]
  dsimp only
  rw [if_pos ⟨ha, hk⟩, hg]
  exact ⟨_, _, rfl, q⟩
theorem w_popZt (h : Ret (m env S) fun x S1 => S1.all (rfB S.length) = true ∧ ∃ k ks xs, x = .ref k ∧ S.length ≤ k ∧ S1[k]? = some (.dt ks xs) ∧ Q (.fdt ks xs) (S1.take S.length)) : Ret (popZ m env S) Q := by
  obtain ⟨x, S1, e, ha, k, ks, xs, rfl, hk, hg, q⟩ := h
  unfold popZ
  rw [e]
  dsimp only
  rw [if_pos ⟨ha, hk⟩, hg]
  exact ⟨_, _, rfl, q⟩
theorem w_popZk (h : Ret (m env S) fun x S1 => S1.all (rfB S.length) = true ∧ ∃ k ks xs, x = .ref k ∧ S.length ≤ k ∧ S1[k]? = some (.dk ks xs) ∧ Q (.fdk ks xs) (S1.take S.length)) : Ret (popZ m env S) Q := by
  obtain ⟨x, S1, e, ha, k, ks, xs, rfl, hk, hg, q⟩ := h
  unfold popZ
  rw [e]
  dsimp only
  rw [if_pos ⟨ha, hk⟩, hg]
  exact ⟨_, _, rfl, q⟩
/-- popM of a new list -/
theorem w_popR (h : Ret (m env S) fun x S1 => S1.all (rfB S.length) = true ∧ ∃ k y, x = .ref k ∧ S.length ≤ k ∧ S1[k]? = some y ∧ Q y (S1.take S.length)) : Ret (popM m env S) Q := w_pop <| h.mono fun x S1 ⟨ha, k, y, e, hk, hg, q⟩ => by
  subst e
  refine ⟨ha, y, ?_, q⟩
  show fz1 S.length (S1.drop S.length) (.ref k) = some y
  unfold fz1
  dsimp only
  rw [if_neg (by omega), List.getElem?_drop, show S.length + (k - S.length) = k from by omega]
  exact hg
theorem w_keysI (h : Ret (m env S) fun x S1 => ∃ ks xs, x = .fdt ks xs ∧ QA (ks.map keyT) S1) : Ret (keysI m env S) QA := h.bind fun x S1 ⟨ks, xs, e, q⟩ => by
  subst e
  exact ⟨_, _, rfl, q⟩
theorem w_itemsI (h : Ret (m env S) fun x S1 => ∃ ks xs, x = .fdk ks xs ∧ QA (itL ks xs) S1) : Ret (itemsI m env S) QA := h.bind fun x S1 ⟨ks, xs, e, q⟩ => by
  subst e
  exact ⟨_, _, rfl, q⟩
theorem w_revN (h : Ret (m env S) fun x S1 => ∃ ys, look S1 x = .lst ys ∧ Q (.lst ys.reverse) S1) : Ret (revN m env S) Q := h.bind fun x S1 ⟨ys, e, q⟩ => by
  rw [e]
  exact ⟨_, _, rfl, q⟩
end
/-- where a store grows behind n, its beginning is as it was -/
theorem take_app {S : Sto} (T : Sto) : (S ++ T).take S.length = S := List.take_left ..
mutual
theorem rfB_le {n m : Nat} (h : n ≤ m) : ∀ {x : Vl}, rfB n x = true → rfB m x = true
  | .non, _ => rfl
  | .bl _, _ => rfl
  | .int _, _ => rfl
  | .str _, _ => rfl
  | .scr _, _ => rfl
  | .tab _ _, _ => rfl
  | .ref k, e => by
    simp only [rfB, decide_eq_true_eq] at e ⊢
    omega
  | .ftp xs, e => by simpa [rfB] using rfBs_le h (xs := xs) (by simpa [rfB] using e)
  | .exn _ _ xs, e => by simpa [rfB] using rfBs_le h (xs := xs) (by simpa [rfB] using e)
  | .fdk _ xs, e => by simpa [rfB] using rfBs_le h (xs := xs) (by simpa [rfB] using e)
  | .fdt _ xs, e => by simpa [rfB] using rfBs_le h (xs := xs) (by simpa [rfB] using e)
  | .tup xs, e => by simpa [rfB] using rfBs_le h (xs := xs) (by simpa [rfB] using e)
  | .lst xs, e => by simpa [rfB] using rfBs_le h (xs := xs) (by simpa [rfB] using e)
  | .dk _ xs, e => by simpa [rfB] using rfBs_le h (xs := xs) (by simpa [rfB] using e)
  | .dt _ xs, e => by simpa [rfB] using rfBs_le h (xs := xs) (by simpa [rfB] using e)
  | .ins _ _ xs, e => by simpa [rfB] using rfBs_le h (xs := xs) (by simpa [rfB] using e)
theorem rfBs_le {n m : Nat} (h : n ≤ m) : ∀ {xs : List Vl}, rfBs n xs = true → rfBs m xs = true
  | [], _ => rfl
  | x :: xs, e => by
    simp only [rfBs, Bool.and_eq_true] at e ⊢
    exact ⟨rfB_le h e.1, rfBs_le h e.2⟩
end
theorem all_le {n m : Nat} (h : n ≤ m) {S : Sto} (e : S.all (rfB n) = true) : S.all (rfB m) = true := List.all_eq_true.mpr fun x hx => rfB_le h (List.all_eq_true.mp e x hx)
end Dm

set_option Elab.async false
set_option linter.all false
set_option maxRecDepth 100000
set_option autoImplicit false
set_option maxHeartbeats 1000000
/-! MdA: rows of numbers modulo M, their sums (plain Lean, no program). -/
namespace Md
/-- the entries of a row -/
abbrev ent (r : List Int) : Nat → Int := fun k => r.getD k 0
/-- sums of multiples of some rows, modulo M, in the first n places -/
inductive Sp (M : Int) (n : Nat) (G : List Int → Prop) : (Nat → Int) → Prop
  | zero {v : Nat → Int} : (∀ k, k < n → M ∣ v k) → Sp M n G v
  | add {v u : Nat → Int} {g : List Int} (c : Int) : G g → Sp M n G u → (∀ k, k < n → M ∣ v k - (u k + c * ent g k)) → Sp M n G v
section
variable {M : Int} {n : Nat} {G G' : List Int → Prop} {u v : Nat → Int}
theorem dv_add {a b : Int} (h1 : M ∣ a) (h2 : M ∣ b) : M ∣ a + b := Int.dvd_add h1 h2
theorem dv_sub {a b : Int} (h1 : M ∣ a) (h2 : M ∣ b) : M ∣ a - b := Int.dvd_sub h1 h2
theorem dv_mul {a : Int} (c : Int) (h1 : M ∣ a) : M ∣ c * a := Int.dvd_mul_of_dvd_right h1
theorem dv_eq {a b : Int} (h : M ∣ a) (e : a = b) : M ∣ b := e ▸ h
theorem Sp.congr (h : Sp M n G u) (e : ∀ k, k < n → M ∣ v k - u k) : Sp M n G v := by
  cases h with
  | zero h => exact .zero fun k hk => dv_eq (dv_add (e k hk) (h k hk)) (by omega)
  | add c hg hs h => exact .add c hg hs fun k hk => dv_eq (dv_add (e k hk) (h k hk)) (by omega)
theorem Sp.gen {g : List Int} (h : G g) : Sp M n G (ent g) := .add 1 h (.zero (v := fun _ => 0) fun _ _ => Int.dvd_zero M) fun k _ => dv_eq (Int.dvd_zero M) (by rw [Int.one_mul]; omega)
theorem Sp.nil : Sp M n G fun _ => 0 := .zero fun _ _ => Int.dvd_zero M
theorem Sp.plus (h1 : Sp M n G u) (h2 : Sp M n G v) : Sp M n G fun k => u k + v k := by
  induction h1 with
  | zero h => exact h2.congr fun k hk => dv_eq (h k hk) (by omega)
  | @add w u g c hg hs h ih => exact .add c hg ih fun k hk => dv_eq (h k hk) (by omega)
theorem Sp.smul (c : Int) (h : Sp M n G u) : Sp M n G fun k => c * u k := by
  induction h with
  | zero h => exact .zero fun k hk => dv_mul c (h k hk)
  | @add w u g d hg hs h ih => exact .add (c * d) hg ih fun k hk => dv_eq (dv_mul c (h k hk)) (by rw [Int.mul_sub, Int.mul_add, Int.mul_assoc])
theorem Sp.comb (c : Int) (h1 : Sp M n G u) (h2 : Sp M n G v) : Sp M n G fun k => u k + c * v k := h1.plus (h2.smul c)
theorem Sp.mono (h : Sp M n G u) (hg : ∀ g, G g → Sp M n G' (ent g)) : Sp M n G' u := by
  induction h with
  | zero h => exact .zero h
  | @add w u g d hgg hs h ih => exact (ih.comb d (hg g hgg)).congr h
theorem Sp.sub (h : Sp M n G u) (hg : ∀ g, G g → G' g) : Sp M n G' u := h.mono fun g q => .gen (hg g q)
/-- where all rows are 0, so is the sum -/
theorem Sp.at0 {k : Nat} (h : Sp M n G u) (hk : k < n) (hg : ∀ g, G g → M ∣ ent g k) : M ∣ u k := by
  induction h with
  | zero h => exact h k hk
  | @add w u g d hgg hs h ih => exact dv_eq (dv_add (h k hk) (dv_add ih (dv_mul d (hg g hgg)))) (by omega)
end
/-! ### the rows' operations -/
def timesL (r : List Int) (c M : Int) : List Int := r.map fun x => x * c % M
def lessL (r o : List Int) (c M : Int) : List Int := (r.zip o).map fun p => (p.1 - p.2 * c) % M
/-- a reduced row of n numbers -/
structure Rw (M : Int) (n : Nat) (r : List Int) : Prop where
  len : r.length = n
  bd : ∀ k, k < n → 0 ≤ ent r k ∧ ent r k < M
section
variable {M : Int} {n : Nat} {r o : List Int} {c : Int}
theorem ent_times (k : Nat) (hk : k < r.length) : ent (timesL r c M) k = ent r k * c % M := by
  unfold timesL ent
  rw [List.getD_eq_getElem?_getD, List.getD_eq_getElem?_getD, List.getElem?_map, List.getElem?_eq_getElem hk]
  rfl
theorem ent_less (k : Nat) (hk : k < r.length) (ho : k < o.length) : ent (lessL r o c M) k = (ent r k - ent o k * c) % M := by
  unfold lessL ent
  rw [List.getD_eq_getElem?_getD, List.getD_eq_getElem?_getD, List.getD_eq_getElem?_getD, List.getElem?_map, (List.getElem?_zip_eq_some (z := (r[k], o[k]))).mpr ⟨List.getElem?_eq_getElem hk, List.getElem?_eq_getElem ho⟩, List.getElem?_eq_getElem hk, List.getElem?_eq_getElem ho]
  rfl
theorem rw_times (hM : 0 < M) (h : r.length = n) : Rw M n (timesL r c M) := ⟨by unfold timesL; rw [List.length_map, h], fun k hk => by
  rw [ent_times k (by omega)]
  exact ⟨Int.emod_nonneg _ (by omega), Int.emod_lt_of_pos _ hM⟩⟩
theorem rw_less (hM : 0 < M) (h : r.length = n) (h2 : o.length = n) : Rw M n (lessL r o c M) := ⟨by unfold lessL; rw [List.length_map, List.length_zip, h, h2, Nat.min_self], fun k hk => by
  rw [ent_less k (by omega) (by omega)]
  exact ⟨Int.emod_nonneg _ (by omega), Int.emod_lt_of_pos _ hM⟩⟩
theorem emod_dv (x M : Int) : M ∣ x % M - x := by
  have := Int.emod_add_mul_ediv x M
  exact ⟨-(x / M), by rw [Int.mul_neg]; omega⟩
theorem times_dv (k : Nat) (hk : k < r.length) : M ∣ ent (timesL r c M) k - c * ent r k := by
  rw [ent_times k hk, Int.mul_comm c]
  exact emod_dv _ _
theorem less_dv (k : Nat) (hk : k < r.length) (ho : k < o.length) : M ∣ ent (lessL r o c M) k - (ent r k - c * ent o k) := by
  rw [ent_less k hk ho, Int.mul_comm c]
  exact emod_dv _ _
/-- a reduced number that M divides is 0 -/
theorem red0 {x : Int} (h0 : 0 ≤ x) (h1 : x < M) (h : M ∣ x) : x = 0 := (Int.emod_eq_of_lt h0 h1).symm.trans (Int.emod_eq_zero_of_dvd h)
theorem red_eq {x y : Int} (h0 : 0 ≤ x) (h1 : x < M) (g0 : 0 ≤ y) (g1 : y < M) (h : M ∣ x - y) : x = y := by
  rcases Int.le_total x y with q | q
  · have := red0 (M := M) (x := y - x) (by omega) (by omega) (dv_eq ((Int.dvd_neg).mpr h) (by omega))
    omega
  · have := red0 (M := M) (x := x - y) (by omega) (by omega) h
    omega
end
/-! ### powers of 2 -/
theorem two_pow_pos (e : Nat) : (0 : Int) < 2 ^ e := Int.pow_pos (by omega)
theorem pow_dv {a b : Nat} (h : a ≤ b) : (2 : Int) ^ a ∣ 2 ^ b := ⟨2 ^ (b - a), by rw [← Int.pow_add]; congr 1; omega⟩
theorem pow_div {a b : Nat} (h : a ≤ b) : (2 : Int) ^ b / 2 ^ a = 2 ^ (b - a) := by
  have e : (2 : Int) ^ b = 2 ^ a * 2 ^ (b - a) := by rw [← Int.pow_add]; congr 1; omega
  rw [e, Int.mul_ediv_cancel_left _ (Int.ne_of_gt (two_pow_pos a))]
theorem pow_lt' {a b : Nat} (h : (2 : Int) ^ a < 2 ^ b) : a < b := by
  rcases Nat.lt_or_ge a b with q | q
  · exact q
  · obtain ⟨c, hc⟩ := pow_dv q
    have := two_pow_pos a
    have h3 : (2 : Int) ^ b ≤ 2 ^ a := Int.le_of_dvd this (pow_dv q)
    omega
/-- the greatest power of 2 in a number -/
theorem split2 : ∀ x : Nat, 0 < x → ∃ e u : Nat, x = 2 ^ e * u ∧ u % 2 = 1 := by
  intro x
  induction x using Nat.strongRecOn with
  | ind x ih =>
    intro hx
    by_cases h : x % 2 = 1
    · exact ⟨0, x, by rw [Nat.pow_zero, Nat.one_mul], h⟩
    · obtain ⟨e, u, h1, h2⟩ := ih (x / 2) (by omega) (by omega)
      refine ⟨e + 1, u, ?_, h2⟩
      rw [Nat.pow_succ, Nat.mul_comm (2 ^ e) 2, Nat.mul_assoc, ← h1]
      omega
end Md

set_option Elab.async false
set_option linter.all false
set_option maxRecDepth 100000
set_option autoImplicit false
set_option maxHeartbeats 1000000
/-! MdB: powers in numbers, inverses. -/
namespace Md
open PySem
theorem and_d1 (a b : Nat) : (2 * a) &&& (2 * b + 1) = 2 * (a &&& b) := by
  apply Nat.eq_of_testBit_eq
  intro i
  cases i with
  | zero => simp [Nat.testBit_zero]
  | succ i =>
    rw [Nat.testBit_and, Nat.testBit_succ, Nat.testBit_succ, Nat.testBit_succ, show 2 * a / 2 = a from by omega, show (2 * b + 1) / 2 = b from by omega, show 2 * (a &&& b) / 2 = a &&& b from by omega, Nat.testBit_and]
theorem and_d2 (a b : Nat) : (2 * a + 1) &&& (2 * b) = 2 * (a &&& b) := by
  rw [Nat.and_comm, and_d1, Nat.and_comm]
theorem and_pow (u : Nat) (hu : u % 2 = 1) : ∀ e : Nat, (2 ^ e * u) &&& (2 ^ e * u - 1) = 2 ^ e * (u - 1)
  | 0 => by
    rw [Nat.pow_zero, Nat.one_mul, Nat.one_mul]
    have h1 : u = 2 * (u / 2) + 1 := by omega
    have h2 : u - 1 = 2 * (u / 2) := by omega
    rw [h2]
    conv => lhs; lhs; rw [h1]
    rw [and_d2, Nat.and_self]
  | e + 1 => by
    have hp : 0 < 2 ^ e * u := Nat.mul_pos (Nat.pow_pos (by omega)) (by omega)
    have h1 : 2 ^ (e + 1) * u = 2 * (2 ^ e * u) := by rw [Nat.pow_succ, Nat.mul_comm (2 ^ e) 2, Nat.mul_assoc]
    have h2 : 2 ^ (e + 1) * u - 1 = 2 * (2 ^ e * u - 1) + 1 := by omega
    rw [h2, h1, and_d1, and_pow u hu e, Nat.pow_succ, Nat.mul_comm (2 ^ e) 2, Nat.mul_assoc]
/-- number & -number -/
theorem bitAnd_pow (e u : Nat) (hu : u % 2 = 1) : Builtin.bitAnd ((2 ^ e * u : Nat) : Int) (-((2 ^ e * u : Nat) : Int)) = ((2 ^ e : Nat) : Int) := by
  have hp : 0 < 2 ^ e * u := Nat.mul_pos (Nat.pow_pos (by omega)) (by omega)
  generalize hx : 2 ^ e * u = x at hp
  have h1 : decide ((0 : Int) ≤ (x : Int)) = true := decide_eq_true (by omega)
  have h2 : decide ((0 : Int) ≤ -(x : Int)) = false := decide_eq_false (by omega)
  unfold Builtin.bitAnd
  rw [h1, h2]
  show (x : Int) - (((x : Int).toNat &&& (Builtin.bitNot (-(x : Int))).toNat : Nat) : Int) = _
  have h3 : (Builtin.bitNot (-(x : Int))).toNat = x - 1 := by
    unfold Builtin.bitNot
    omega
  rw [h3, Int.toNat_natCast, ← hx, and_pow u hu e]
  have h4 : 2 ^ e * u = 2 ^ e * (u - 1) + 2 ^ e := by
    rw [← Nat.mul_succ]
    congr 1
    omega
  omega
/-- the power in a number -/
def pw (x : Int) : Int := Builtin.bitAnd x (-x)
theorem pw_ok {x : Int} {w : Nat} (h0 : 0 < x) (h1 : x < 2 ^ w) : ∃ (e : Nat) (u : Int), e < w ∧ pw x = 2 ^ e ∧ x = 2 ^ e * u ∧ u % 2 = 1 ∧ x / pw x = u := by
  obtain ⟨e, u, hx, hu⟩ := split2 x.toNat (by omega)
  have ex : x = ((2 ^ e * u : Nat) : Int) := by omega
  have e1 : ((2 ^ e : Nat) : Int) = (2 : Int) ^ e := by rw [Int.natCast_pow]; rfl
  have e2 : x = 2 ^ e * (u : Int) := by rw [ex, Int.natCast_mul, e1]
  have hp := two_pow_pos e
  have e3 : pw x = 2 ^ e := by
    unfold pw
    rw [ex, bitAnd_pow e u hu, e1]
  refine ⟨e, u, ?_, e3, e2, by omega, ?_⟩
  · refine pow_lt' (Int.lt_of_le_of_lt ?_ h1)
    rw [e2]
    have : (2 : Int) ^ e * 1 ≤ 2 ^ e * (u : Int) := Int.mul_le_mul_of_nonneg_left (by omega) (by omega)
    omega
  · rw [e3]
    conv => lhs; lhs; rw [e2]
    exact Int.mul_ediv_cancel_left _ (by omega)
/-! ### inverses -/
def nwt (u M x : Int) : Int := x * (2 - u * x) % M
def inv5 (u M : Int) : Int := nwt u M (nwt u M (nwt u M (nwt u M (nwt u M u)))) % M
theorem nwt_ok {u x : Int} {k j w : Nat} (hj : j ≤ 2 * k) (hw : j ≤ w) (h : (2 : Int) ^ k ∣ u * x - 1) : (2 : Int) ^ j ∣ u * nwt u (2 ^ w) x - 1 := by
  have h1 : (2 : Int) ^ w ∣ nwt u (2 ^ w) x - x * (2 - u * x) := emod_dv _ _
  have h2 : (2 : Int) ^ j ∣ u * (nwt u (2 ^ w) x - x * (2 - u * x)) := dv_mul u (Int.dvd_trans (pow_dv hw) h1)
  have h3 : (2 : Int) ^ j ∣ (u * x - 1) * (u * x - 1) := by
    refine Int.dvd_trans (pow_dv hj) ?_
    rw [Nat.two_mul, Int.pow_add]
    exact Int.mul_dvd_mul h h
  refine dv_eq (dv_sub h2 h3) ?_
  have e1 : u * (nwt u (2 ^ w) x - x * (2 - u * x)) = u * nwt u (2 ^ w) x - (2 * (u * x) - (u * x) * (u * x)) := by
    rw [Int.mul_sub, ← Int.mul_assoc u x, Int.mul_sub, Int.mul_comm (u * x) 2]
  have e2 : (u * x - 1) * (u * x - 1) = (u * x) * (u * x) - 2 * (u * x) + 1 := by
    rw [Int.sub_mul, Int.mul_sub, Int.one_mul, Int.mul_one]
    omega
  rw [e1, e2]
  omega
theorem odd8 {u : Int} (h : u % 2 = 1) : (8 : Int) ∣ u * u - 1 := by
  have h8 : u % 8 = 1 ∨ u % 8 = 3 ∨ u % 8 = 5 ∨ u % 8 = 7 := by omega
  refine Int.dvd_of_emod_eq_zero ?_
  rcases h8 with h8 | h8 | h8 | h8 <;> rw [Int.sub_emod, Int.mul_emod, h8] <;> rfl
theorem inv5_ok {u : Int} {w : Nat} (hu : u % 2 = 1) (hw : w ≤ 64) : (2 : Int) ^ w ∣ u * inv5 u (2 ^ w) - 1 := by
  have h0 : (2 : Int) ^ (min 3 w) ∣ u * u - 1 := Int.dvd_trans (pow_dv (Nat.min_le_left 3 w)) (odd8 hu)
  have h1 := nwt_ok (j := min 6 w) (w := w) (by omega) (by omega) h0
  have h2 := nwt_ok (j := min 12 w) (w := w) (by omega) (by omega) h1
  have h3 := nwt_ok (j := min 24 w) (w := w) (by omega) (by omega) h2
  have h4 := nwt_ok (j := min 48 w) (w := w) (by omega) (by omega) h3
  have h5 := nwt_ok (j := w) (w := w) (by omega) (by omega) h4
  have h6 : (2 : Int) ^ w ∣ inv5 u (2 ^ w) - nwt u (2 ^ w) (nwt u (2 ^ w) (nwt u (2 ^ w) (nwt u (2 ^ w) (nwt u (2 ^ w) u)))) := emod_dv _ _
  exact dv_eq (dv_add (dv_mul u h6) h5) (by rw [Int.mul_sub]; omega)
end Md

set_option Elab.async false
set_option linter.all false
set_option maxRecDepth 100000
set_option autoImplicit false
set_option maxHeartbeats 1000000
/-! MdC: pivots; a row passes a column. -/
namespace Md
abbrev Pv := List (Nat × List Int)
def getP : Pv → Nat → Option (List Int)
  | [], _ => none
  | (b, r) :: P, a => if b = a then some r else getP P a
def putP (P : Pv) (a : Nat) (r : List Int) : Pv := if (P.any fun p => decide (p.1 = a)) = true then P.map fun p => if p.1 = a then (a, r) else p else P ++ [(a, r)]
theorem getP_none : ∀ {P : Pv} {a : Nat}, (P.any fun p => decide (p.1 = a)) = false → getP P a = none
  | [], _, _ => rfl
  | (b, r) :: P, a, h => by
    rw [List.any_cons, Bool.or_eq_false_iff] at h
    unfold getP
    rw [if_neg (of_decide_eq_false h.1)]
    exact getP_none h.2
theorem getP_map (a : Nat) (r : List Int) (b : Nat) : ∀ P : Pv, getP (P.map fun p => if p.1 = a then (a, r) else p) b = if b = a then (if (P.any fun p => decide (p.1 = a)) = true then some r else none) else getP P b
  | [] => by simp [getP]
  | (c, q) :: P => by
    have ih := getP_map a r b P
    rw [List.map_cons, List.any_cons]
    by_cases hc : c = a
    · subst hc
      by_cases hb : b = c
      · subst hb; simp [getP]
      · have hb' : ¬ c = b := fun z => hb z.symm
        simp only [if_true, getP, if_neg hb', if_neg hb] at ih ⊢
        exact ih
    · by_cases hb : b = a
      · subst hb
        simp only [if_neg hc, getP, if_true, decide_eq_false hc, Bool.false_or] at ih ⊢
        exact ih
      · by_cases hcb : c = b
        · simp only [if_neg hc, getP, if_neg hb, if_pos hcb]
        · simp only [if_neg hc, getP, if_neg hb, if_neg hcb] at ih ⊢
          exact ih
theorem getP_snoc (a : Nat) (r : List Int) (b : Nat) : ∀ P : Pv, (P.any fun p => decide (p.1 = a)) = false → getP (P ++ [(a, r)]) b = if b = a then some r else getP P b
  | [], _ => by
    by_cases hb : b = a
    · subst hb; simp [getP]
    · have hb' : ¬ a = b := fun z => hb z.symm
      simp [getP, hb, hb']
  | (c, q) :: P, h => by
    rw [List.any_cons, Bool.or_eq_false_iff] at h
    have hc : ¬ c = a := of_decide_eq_false h.1
    have ih := getP_snoc a r b P h.2
    rw [List.cons_append]
    by_cases hb : b = a
    · subst hb
      simp only [getP, if_neg hc, if_true] at ih ⊢
      exact ih
    · by_cases hcb : c = b
      · simp only [getP, if_pos hcb, if_neg hb]
      · simp only [getP, if_neg hcb, if_neg hb] at ih ⊢
        exact ih
def updG (g : Nat → Option (List Int)) (a : Nat) (r : List Int) : Nat → Option (List Int) := fun b => if b = a then some r else g b
theorem getP_put (P : Pv) (a : Nat) (r : List Int) : getP (putP P a r) = updG (getP P) a r := by
  funext b
  unfold putP updG
  cases h : P.any fun p => decide (p.1 = a) with
  | true => rw [if_pos rfl, getP_map, h, if_pos rfl]
  | false => rw [if_neg Bool.false_ne_true, getP_snoc a r b P h]
/-! ### what stands in the pivots, and what waits -/
def Zb (a : Nat) (r : List Int) : Prop := ∀ k, k < a → ent r k = 0
/-- the pivots from a column on, and the waiting rows that are 0 ahead of it -/
def Gn (g : Nat → Option (List Int)) (lo : Nat) (L : List (List Int)) (x : List Int) : Prop := (∃ b, lo ≤ b ∧ g b = some x) ∨ (x ∈ L ∧ Zb lo x)
structure PInv (w n : Nat) (g : Nat → Option (List Int)) (L : List (List Int)) : Prop where
  piv : ∀ a p, g a = some p → a < n ∧ Rw (2 ^ w) n p ∧ Zb a p ∧ ∃ e, e < w ∧ ent p a = 2 ^ e
  lrw : ∀ x ∈ L, Rw (2 ^ w) n x
  clo : ∀ a p, g a = some p → Sp (2 ^ w) n (Gn g (a + 1) L) fun k => 2 ^ w / ent p a * ent p k
def Phi (f : Nat → Nat) : Nat → Nat
  | 0 => 0
  | n + 1 => Phi f n + f n
theorem Phi_upd {f f' : Nat → Nat} {a : Nat} (h : ∀ b, b ≠ a → f' b = f b) : ∀ n, (a < n → Phi f' n + f a = Phi f n + f' a) ∧ (n ≤ a → Phi f' n = Phi f n)
  | 0 => ⟨fun h => by omega, fun _ => rfl⟩
  | n + 1 => by
    obtain ⟨i1, i2⟩ := Phi_upd h n
    refine ⟨fun ha => ?_, fun ha => ?_⟩
    · show Phi f' n + f' n + f a = Phi f n + f n + f' a
      by_cases hn : a = n
      · subst hn
        have := i2 (Nat.le_refl _)
        omega
      · have := i1 (by omega)
        have := h n (fun z => hn z.symm)
        omega
    · show Phi f' n + f' n = Phi f n + f n
      have := i2 (by omega)
      have := h n (by omega)
      omega
/-- how often a pivot can be halved -/
def phi (w : Nat) (g : Nat → Option (List Int)) (a : Nat) : Nat := match g a with
  | some p => (ent p a).toNat.log2
  | none => w
def passP (M : Int) (P : Pv) (r : List Int) (a : Nat) : List Int × Pv × List (List Int) := match getP P a with
  | some o => if ent r a ≥ ent o a ∧ ent r a % ent o a = 0 then (lessL r o (ent r a / ent o a) M, P, [])
    else (lessL o (timesL r (inv5 (ent r a / pw (ent r a)) M) M) (ent o a / pw (ent r a)) M, putP P a (timesL r (inv5 (ent r a / pw (ent r a)) M) M), [timesL (timesL r (inv5 (ent r a / pw (ent r a)) M) M) (M / pw (ent r a)) M])
  | none => (timesL (timesL r (inv5 (ent r a / pw (ent r a)) M) M) (M / pw (ent r a)) M, putP P a (timesL r (inv5 (ent r a / pw (ent r a)) M) M), [])
/-- the pivot that a row makes -/
structure Mk (w n : Nat) (r : List Int) (a : Nat) (e : Nat) (u i : Int) (pv rs : List Int) : Prop where
  he : e < w
  hx : ent r a = 2 ^ e * u
  hu : u % 2 = 1
  prw : Rw (2 ^ w) n pv
  pz : Zb a pv
  pa : ent pv a = 2 ^ e
  pr : ∀ k, k < n → (2 : Int) ^ w ∣ ent pv k - i * ent r k
  rp : ∀ k, k < n → (2 : Int) ^ w ∣ ent r k - u * ent pv k
  srw : Rw (2 ^ w) n rs
  sz : Zb (a + 1) rs
  sp : ∀ k, k < n → (2 : Int) ^ w ∣ ent rs k - 2 ^ w / 2 ^ e * ent pv k
theorem mk_ok {w n : Nat} {r : List Int} {a : Nat} (hw : w ≤ 64) (hr : Rw (2 ^ w) n r) (ha : a < n) (hz : Zb a r) (h0 : ent r a ≠ 0) :
    ∃ e u i, pw (ent r a) = 2 ^ e ∧ Mk w n r a e u i (timesL r (inv5 (ent r a / pw (ent r a)) (2 ^ w)) (2 ^ w)) (timesL (timesL r (inv5 (ent r a / pw (ent r a)) (2 ^ w)) (2 ^ w)) (2 ^ w / pw (ent r a)) (2 ^ w)) := by
  obtain ⟨b0, b1⟩ := hr.bd a ha
  obtain ⟨e, u, he, hp, hx, hu, hq⟩ := pw_ok (x := ent r a) (w := w) (by omega) b1
  have hM := two_pow_pos w
  have hi := inv5_ok hu hw
  rw [hq, hp]
  generalize inv5 u (2 ^ w) = i at hi
  have hpw : Rw (2 ^ w) n (timesL r i (2 ^ w)) := rw_times hM hr.len
  have hpr : ∀ k, k < n → (2 : Int) ^ w ∣ ent (timesL r i (2 ^ w)) k - i * ent r k := fun k hk => times_dv k (by rw [hr.len]; exact hk)
  have hpz : Zb a (timesL r i (2 ^ w)) := fun k hk => by
    rw [ent_times k (by rw [hr.len]; omega), hz k hk, Int.zero_mul, Int.zero_emod]
  have hpa : ent (timesL r i (2 ^ w)) a = 2 ^ e := by
    obtain ⟨c0, c1⟩ := hpw.bd a ha
    have hlt : (2 : Int) ^ e < 2 ^ w := by
      have h2 : (2 : Int) ^ w = 2 ^ e * 2 ^ (w - e) := by rw [← Int.pow_add]; congr 1; omega
      have h3 : (2 : Int) ^ (w - e) = 2 * 2 ^ (w - e - 1) := by rw [← Int.pow_succ']; congr 1; omega
      have := two_pow_pos e
      have := two_pow_pos (w - e - 1)
      rw [h2, h3]
      have h4 : (2 : Int) ^ e * 1 < 2 ^ e * (2 * 2 ^ (w - e - 1)) := Int.mul_lt_mul_of_pos_left (by omega) (by omega)
      omega
    refine red_eq (M := 2 ^ w) c0 c1 (by have := two_pow_pos e; omega) hlt ?_
    refine dv_eq (dv_add (hpr a ha) (dv_mul (2 ^ e) hi)) ?_
    rw [hx, Int.mul_sub, Int.mul_one, Int.mul_left_comm, Int.mul_comm i u]
    omega
  refine ⟨e, u, i, rfl, he, hx, hu, hpw, hpz, hpa, hpr, fun k hk => ?_, rw_times hM hpw.len, fun k hk => ?_, fun k hk => times_dv k (by rw [hpw.len]; exact hk)⟩
  · refine dv_eq (dv_add ((Int.dvd_neg).mpr (dv_mul u (hpr k hk))) ((Int.dvd_neg).mpr (dv_mul (ent r k) hi))) ?_
    rw [Int.mul_sub, Int.mul_sub, Int.mul_one, ← Int.mul_assoc, Int.mul_comm (ent r k)]
    omega
  · by_cases hka : k = a
    · subst hka
      rw [ent_times k (by rw [hpw.len]; exact ha), hpa, Int.mul_ediv_cancel' (pow_dv (Nat.le_of_lt he)), Int.emod_self]
    · rw [ent_times k (by rw [hpw.len]; omega), hpz k (by omega), Int.zero_mul, Int.zero_emod]
end Md

set_option Elab.async false
set_option linter.all false
set_option maxRecDepth 100000
set_option autoImplicit false
set_option maxHeartbeats 1000000
/-! MdD: a row passes a column: what is kept. -/
namespace Md
section
variable {w n : Nat} {g g' : Nat → Option (List Int)} {L L' : List (List Int)}
/-- the same sums of all -/
def Same (w n : Nat) (g g' : Nat → Option (List Int)) (L L' : List (List Int)) : Prop := ∀ v, Sp (2 ^ w) n (Gn g 0 L) v ↔ Sp (2 ^ w) n (Gn g' 0 L') v
theorem Same.trans {g2 : Nat → Option (List Int)} {L2 : List (List Int)} (h : Same w n g g' L L') (h2 : Same w n g' g2 L' L2) : Same w n g g2 L L2 := fun v => (h v).trans (h2 v)
theorem Same.refl : Same w n g g L L := fun _ => Iff.rfl
theorem Same.of (h1 : ∀ x, Gn g 0 L x → Sp (2 ^ w) n (Gn g' 0 L') (ent x)) (h2 : ∀ x, Gn g' 0 L' x → Sp (2 ^ w) n (Gn g 0 L) (ent x)) : Same w n g g' L L' := fun v => ⟨fun h => h.mono h1, fun h => h.mono h2⟩
theorem Gn.lo {lo lo' : Nat} (h : lo' ≤ lo) {x : List Int} (q : Gn g lo L x) : Gn g lo' L x := by
  rcases q with ⟨b, hb, e⟩ | ⟨hx, hz⟩
  · exact .inl ⟨b, by omega, e⟩
  · exact .inr ⟨hx, fun k hk => hz k (by omega)⟩
/-- what is asked of a step from r :: W to r' :: (W ++ ws) -/
structure Stp (w n a : Nat) (g : Nat → Option (List Int)) (r : List Int) (W : List (List Int)) (g' : Nat → Option (List Int)) (r' : List Int) (ws : List (List Int)) : Prop where
  inv : PInv w n g' (r' :: (W ++ ws))
  zb : Zb (a + 1) r'
  same : Same w n g g' (r :: W) (r' :: (W ++ ws))
  meas : Phi (phi w g') n + ws.length ≤ Phi (phi w g) n
theorem zb_lt {a b : Nat} {r : List Int} (h0 : ent r a ≠ 0) (hz : Zb (b + 1) r) : b + 1 ≤ a := by
  rcases Nat.lt_or_ge a (b + 1) with q | q
  · exact absurd (hz a q) h0
  · exact q
theorem log_pow (e : Nat) : ((2 : Int) ^ e).toNat.log2 = e := by
  have : ((2 : Int) ^ e).toNat = 2 ^ e := by
    have e1 : ((2 ^ e : Nat) : Int) = (2 : Int) ^ e := by rw [Int.natCast_pow]; rfl
    rw [← e1, Int.toNat_natCast]
  rw [this, Nat.log2_two_pow]
/-- a new pivot -/
theorem step_none {r rs pv : List Int} {W : List (List Int)} {a e : Nat} {u i : Int} (I : PInv w n g (r :: W)) (ha : a < n) (h0 : ent r a ≠ 0) (hg : g a = none) (m : Mk w n r a e u i pv rs) : Stp w n a g r W (updG g a pv) rs [] := by
  have hga : updG g a pv a = some pv := if_pos rfl
  have hgb : ∀ b, b ≠ a → updG g a pv b = g b := fun b hb => if_neg hb
  have hpr : Sp (2 ^ w) n (Gn (updG g a pv) a (rs :: (W ++ []))) (ent r) := ((Sp.gen (.inl ⟨a, Nat.le_refl _, hga⟩)).smul u).congr m.rp
  have old : ∀ lo x, Gn g lo (r :: W) x → (x = r → lo ≤ a) → Sp (2 ^ w) n (Gn (updG g a pv) lo (rs :: (W ++ []))) (ent x) := fun lo x q hl => by
    rcases q with ⟨b, hb, e⟩ | ⟨hx, hz⟩
    · refine .gen (.inl ⟨b, hb, ?_⟩)
      rw [hgb b (fun z => by rw [z, hg] at e; cases e)]
      exact e
    · rcases List.mem_cons.mp hx with e | hx
      · rw [e]
        exact hpr.sub fun y q => q.lo (hl e)
      · exact .gen (.inr ⟨List.mem_cons_of_mem _ (List.mem_append_left _ hx), hz⟩)
  refine ⟨⟨fun b p hp => ?_, fun x hx => ?_, fun b p hp => ?_⟩, m.sz, .of (fun x q => old 0 x q fun _ => Nat.zero_le _) (fun x q => ?_), ?_⟩
  · by_cases hb : b = a
    · subst hb
      rw [hga] at hp
      cases hp
      exact ⟨ha, m.prw, m.pz, e, m.he, m.pa⟩
    · rw [hgb b hb] at hp
      exact I.piv b p hp
  · rcases List.mem_cons.mp hx with e | hx
    · rw [e]; exact m.srw
    · rw [List.append_nil] at hx
      exact I.lrw x (List.mem_cons_of_mem _ hx)
  · by_cases hb : b = a
    · subst hb
      rw [hga] at hp
      cases hp
      rw [m.pa]
      exact (Sp.gen (.inr ⟨List.mem_cons_self .., m.sz⟩)).congr fun k hk => dv_eq ((Int.dvd_neg).mpr (m.sp k hk)) (by omega)
    · rw [hgb b hb] at hp
      refine (I.clo b p hp).mono fun x q => old (b + 1) x q fun ex => ?_
      subst ex
      rcases q with ⟨c, hc, e⟩ | ⟨_, hz⟩
      · obtain ⟨_, _, hz, _⟩ := I.piv c x e
        rcases Nat.lt_or_ge a (b + 1) with q | q
        · exact absurd (hz a (by omega)) h0
        · exact q
      · exact zb_lt h0 hz
  · have hpv : Sp (2 ^ w) n (Gn g 0 (r :: W)) (ent pv) := ((Sp.gen (.inr ⟨List.mem_cons_self .., fun k hk => by omega⟩)).smul i).congr m.pr
    rcases q with ⟨b, hb, e⟩ | ⟨hx, hz⟩
    · by_cases hba : b = a
      · subst hba
        rw [hga] at e
        cases e
        exact hpv
      · rw [hgb b hba] at e
        exact .gen (.inl ⟨b, hb, e⟩)
    · rcases List.mem_cons.mp hx with e | hx
      · rw [e]
        exact (hpv.smul _).congr m.sp
      · rw [List.append_nil] at hx
        exact .gen (.inr ⟨List.mem_cons_of_mem _ hx, hz⟩)
  · have := (Phi_upd (f := phi w g) (f' := phi w (updG g a pv)) (a := a) (fun b hb => by unfold phi; rw [hgb b hb]) n).1 ha
    have e1 : phi w g a = w := by unfold phi; rw [hg]
    have e2 : phi w (updG g a pv) a = e := by unfold phi; rw [hga]; show (ent pv a).toNat.log2 = e; rw [m.pa, log_pow]
    have := m.he
    rw [List.length_nil]
    omega
/-- a smaller pivot in the place of one -/
theorem step_swap {r rs pv o : List Int} {W : List (List Int)} {a e : Nat} {u i : Int} (I : PInv w n g (r :: W)) (ha : a < n) (h0 : ent r a ≠ 0) (hg : g a = some o) (hno : ¬ (ent r a ≥ ent o a ∧ ent r a % ent o a = 0)) (m : Mk w n r a e u i pv rs) :
    Stp w n a g r W (updG g a pv) (lessL o pv (ent o a / 2 ^ e) (2 ^ w)) [rs] := by
  have hM := two_pow_pos w
  obtain ⟨_, ho, hoz, j, hj, hoa⟩ := I.piv a o hg
  have hr := I.lrw r (List.mem_cons_self ..)
  have hej : e < j := by
    rcases Nat.lt_or_ge e j with q | q
    · exact q
    · exfalso
      have hd : (2 : Int) ^ j ∣ ent r a := by rw [m.hx]; exact Int.dvd_trans (pow_dv q) (Int.dvd_mul_right _ _)
      refine hno ⟨?_, by rw [hoa]; exact Int.emod_eq_zero_of_dvd hd⟩
      rw [hoa]
      exact Int.le_of_dvd (by have := hr.bd a ha; omega) hd
  have hq : ent o a / 2 ^ e = 2 ^ (j - e) := by rw [hoa]; exact pow_div (Nat.le_of_lt hej)
  rw [hq]
  generalize hrr : lessL o pv (2 ^ (j - e)) (2 ^ w) = r'
  have hr' : Rw (2 ^ w) n r' := by rw [← hrr]; exact rw_less hM ho.len m.prw.len
  have hle : ∀ k, k < n → (2 : Int) ^ w ∣ ent r' k - (ent o k - 2 ^ (j - e) * ent pv k) := fun k hk => by rw [← hrr]; exact less_dv k (by rw [ho.len]; exact hk) (by rw [m.prw.len]; exact hk)
  have hz' : Zb (a + 1) r' := fun k hk => by
    rw [← hrr, ent_less k (by rw [ho.len]; omega) (by rw [m.prw.len]; omega)]
    by_cases hka : k = a
    · subst hka
      have e1 : (2 : Int) ^ e * 2 ^ (j - e) = 2 ^ j := by rw [← Int.pow_add]; congr 1; omega
      rw [hoa, m.pa, e1, Int.sub_self, Int.zero_emod]
    · rw [hoz k (by omega), m.pz k (by omega), Int.zero_mul, Int.sub_zero, Int.zero_emod]
  have hga : updG g a pv a = some pv := if_pos rfl
  have hgb : ∀ b, b ≠ a → updG g a pv b = g b := fun b hb => if_neg hb
  have hp1 : Sp (2 ^ w) n (Gn (updG g a pv) a (r' :: (W ++ [rs]))) (ent pv) := .gen (.inl ⟨a, Nat.le_refl _, hga⟩)
  have hr1 : Sp (2 ^ w) n (Gn (updG g a pv) a (r' :: (W ++ [rs]))) (ent r') := .gen (.inr ⟨List.mem_cons_self .., fun k hk => hz' k (by omega)⟩)
  have hpr : Sp (2 ^ w) n (Gn (updG g a pv) a (r' :: (W ++ [rs]))) (ent r) := (hp1.smul u).congr m.rp
  have hpo : Sp (2 ^ w) n (Gn (updG g a pv) a (r' :: (W ++ [rs]))) (ent o) := (hr1.comb (2 ^ (j - e)) hp1).congr fun k hk => dv_eq ((Int.dvd_neg).mpr (hle k hk)) (by omega)
  have old : ∀ lo x, Gn g lo (r :: W) x → (x = r → lo ≤ a) → Sp (2 ^ w) n (Gn (updG g a pv) lo (r' :: (W ++ [rs]))) (ent x) := fun lo x q hl => by
    rcases q with ⟨b, hb, e⟩ | ⟨hx, hz⟩
    · by_cases hba : b = a
      · subst hba
        rw [hg] at e
        cases e
        exact hpo.sub fun y q => q.lo hb
      · refine .gen (.inl ⟨b, hb, ?_⟩)
        rw [hgb b hba]
        exact e
    · rcases List.mem_cons.mp hx with e | hx
      · rw [e]
        exact hpr.sub fun y q => q.lo (hl e)
      · exact .gen (.inr ⟨List.mem_cons_of_mem _ (List.mem_append_left _ hx), hz⟩)
  refine ⟨⟨fun b p hp => ?_, fun x hx => ?_, fun b p hp => ?_⟩, hz', .of (fun x q => old 0 x q fun _ => Nat.zero_le _) (fun x q => ?_), ?_⟩
  · by_cases hb : b = a
    · subst hb
      rw [hga] at hp
      cases hp
      exact ⟨ha, m.prw, m.pz, e, m.he, m.pa⟩
    · rw [hgb b hb] at hp
      exact I.piv b p hp
  · rcases List.mem_cons.mp hx with e | hx
    · rw [e]; exact hr'
    · rcases List.mem_append.mp hx with hx | hx
      · exact I.lrw x (List.mem_cons_of_mem _ hx)
      · rw [List.mem_singleton.mp hx]; exact m.srw
  · by_cases hb : b = a
    · subst hb
      rw [hga] at hp
      cases hp
      rw [m.pa]
      exact (Sp.gen (.inr ⟨List.mem_cons_of_mem _ (List.mem_append_right _ (List.mem_singleton.mpr rfl)), m.sz⟩)).congr fun k hk => dv_eq ((Int.dvd_neg).mpr (m.sp k hk)) (by omega)
    · rw [hgb b hb] at hp
      refine (I.clo b p hp).mono fun x q => old (b + 1) x q fun ex => ?_
      subst ex
      rcases q with ⟨c, hc, e⟩ | ⟨_, hz⟩
      · obtain ⟨_, _, hz, _⟩ := I.piv c x e
        rcases Nat.lt_or_ge a (b + 1) with q | q
        · exact absurd (hz a (by omega)) h0
        · exact q
      · exact zb_lt h0 hz
  · have hpv : Sp (2 ^ w) n (Gn g 0 (r :: W)) (ent pv) := ((Sp.gen (.inr ⟨List.mem_cons_self .., fun k hk => by omega⟩)).smul i).congr m.pr
    have hoo : Sp (2 ^ w) n (Gn g 0 (r :: W)) (ent o) := .gen (.inl ⟨a, Nat.zero_le _, hg⟩)
    rcases q with ⟨b, hb, e⟩ | ⟨hx, hz⟩
    · by_cases hba : b = a
      · subst hba
        rw [hga] at e
        cases e
        exact hpv
      · rw [hgb b hba] at e
        exact .gen (.inl ⟨b, hb, e⟩)
    · rcases List.mem_cons.mp hx with ee | hx
      · rw [ee]
        exact (hoo.comb (-(2 ^ (j - e))) hpv).congr fun k hk => dv_eq (hle k hk) (by rw [Int.neg_mul]; omega)
      · rcases List.mem_append.mp hx with hx | hx
        · exact .gen (.inr ⟨List.mem_cons_of_mem _ hx, hz⟩)
        · rw [List.mem_singleton.mp hx]
          exact (hpv.smul _).congr m.sp
  · have := (Phi_upd (f := phi w g) (f' := phi w (updG g a pv)) (a := a) (fun b hb => by unfold phi; rw [hgb b hb]) n).1 ha
    have e1 : phi w g a = j := by unfold phi; rw [hg]; show (ent o a).toNat.log2 = j; rw [hoa, log_pow]
    have e2 : phi w (updG g a pv) a = e := by unfold phi; rw [hga]; show (ent pv a).toNat.log2 = e; rw [m.pa, log_pow]
    rw [List.length_singleton]
    omega
/-- a multiple of a pivot less -/
theorem step_less {r o : List Int} {W : List (List Int)} {a : Nat} (I : PInv w n g (r :: W)) (ha : a < n) (hz : Zb a r) (h0 : ent r a ≠ 0) (hg : g a = some o) (hd : ent r a % ent o a = 0) :
    Stp w n a g r W g (lessL r o (ent r a / ent o a) (2 ^ w)) [] := by
  have hM := two_pow_pos w
  obtain ⟨_, ho, hoz, j, hj, hoa⟩ := I.piv a o hg
  have hr := I.lrw r (List.mem_cons_self ..)
  generalize hq : ent r a / ent o a = q
  have hqe : ent o a * q = ent r a := by rw [← hq]; exact Int.mul_ediv_cancel' (Int.dvd_of_emod_eq_zero hd)
  generalize hrr : lessL r o q (2 ^ w) = r'
  have hr' : Rw (2 ^ w) n r' := by rw [← hrr]; exact rw_less hM hr.len ho.len
  have hle : ∀ k, k < n → (2 : Int) ^ w ∣ ent r' k - (ent r k - q * ent o k) := fun k hk => by rw [← hrr]; exact less_dv k (by rw [hr.len]; exact hk) (by rw [ho.len]; exact hk)
  have hz' : Zb (a + 1) r' := fun k hk => by
    rw [← hrr, ent_less k (by rw [hr.len]; omega) (by rw [ho.len]; omega)]
    by_cases hka : k = a
    · subst hka
      rw [hqe, Int.sub_self, Int.zero_emod]
    · rw [hz k (by omega), hoz k (by omega), Int.zero_mul, Int.sub_zero, Int.zero_emod]
  have hp1 : Sp (2 ^ w) n (Gn g a (r' :: (W ++ []))) (ent o) := .gen (.inl ⟨a, Nat.le_refl _, hg⟩)
  have hr1 : Sp (2 ^ w) n (Gn g a (r' :: (W ++ []))) (ent r') := .gen (.inr ⟨List.mem_cons_self .., fun k hk => hz' k (by omega)⟩)
  have hpr : Sp (2 ^ w) n (Gn g a (r' :: (W ++ []))) (ent r) := (hr1.comb q hp1).congr fun k hk => dv_eq ((Int.dvd_neg).mpr (hle k hk)) (by omega)
  have old : ∀ lo x, Gn g lo (r :: W) x → (x = r → lo ≤ a) → Sp (2 ^ w) n (Gn g lo (r' :: (W ++ []))) (ent x) := fun lo x q hl => by
    rcases q with ⟨b, hb, e⟩ | ⟨hx, hz⟩
    · exact .gen (.inl ⟨b, hb, e⟩)
    · rcases List.mem_cons.mp hx with e | hx
      · rw [e]
        exact hpr.sub fun y q => q.lo (hl e)
      · exact .gen (.inr ⟨List.mem_cons_of_mem _ (List.mem_append_left _ hx), hz⟩)
  refine ⟨⟨I.piv, fun x hx => ?_, fun b p hp => ?_⟩, hz', .of (fun x q => old 0 x q fun _ => Nat.zero_le _) (fun x q => ?_), ?_⟩
  · rcases List.mem_cons.mp hx with e | hx
    · rw [e]; exact hr'
    · rw [List.append_nil] at hx
      exact I.lrw x (List.mem_cons_of_mem _ hx)
  · refine (I.clo b p hp).mono fun x q => old (b + 1) x q fun ex => ?_
    subst ex
    rcases q with ⟨c, hc, e⟩ | ⟨_, hz⟩
    · obtain ⟨_, _, hz, _⟩ := I.piv c x e
      rcases Nat.lt_or_ge a (b + 1) with q | q
      · exact absurd (hz a (by omega)) h0
      · exact q
    · exact zb_lt h0 hz
  · rcases q with ⟨b, hb, e⟩ | ⟨hx, hz⟩
    · exact .gen (.inl ⟨b, hb, e⟩)
    · rcases List.mem_cons.mp hx with e | hx
      · rw [e]
        have ho' : Sp (2 ^ w) n (Gn g 0 (r :: W)) (ent o) := .gen (.inl ⟨a, Nat.zero_le _, hg⟩)
        have hr2 : Sp (2 ^ w) n (Gn g 0 (r :: W)) (ent r) := .gen (.inr ⟨List.mem_cons_self .., fun k hk => by omega⟩)
        exact (hr2.comb (-q) ho').congr fun k hk => dv_eq (hle k hk) (by rw [Int.neg_mul]; omega)
      · rw [List.append_nil] at hx
        exact .gen (.inr ⟨List.mem_cons_of_mem _ hx, hz⟩)
  · rw [List.length_nil]
    omega
end
theorem pass_ok {w n : Nat} {P : Pv} {r : List Int} {W : List (List Int)} {a : Nat} (hw : w ≤ 64) (I : PInv w n (getP P) (r :: W)) (ha : a < n) (hz : Zb a r) (h0 : ent r a ≠ 0) :
    Stp w n a (getP P) r W (getP (passP (2 ^ w) P r a).2.1) (passP (2 ^ w) P r a).1 (passP (2 ^ w) P r a).2.2 := by
  obtain ⟨e, u, i, hp, m⟩ := mk_ok hw (I.lrw r (List.mem_cons_self ..)) ha hz h0
  unfold passP
  cases hg : getP P a with
  | none =>
    dsimp only
    rw [getP_put]
    exact step_none I ha h0 hg m
  | some o =>
    dsimp only
    by_cases hc : ent r a ≥ ent o a ∧ ent r a % ent o a = 0
    · rw [if_pos hc]
      exact step_less I ha hz h0 hg hc.2
    · rw [if_neg hc]
      dsimp only
      rw [getP_put]
      have := step_swap I ha h0 hg hc m
      rw [hp] at this ⊢
      exact this
end Md

set_option Elab.async false
set_option linter.all false
set_option maxRecDepth 100000
set_option autoImplicit false
set_option maxHeartbeats 1000000
/-! MdE: rows put to a stair; what is left of a row. -/
namespace Md
section
variable {w n : Nat} {g : Nat → Option (List Int)} {L L' : List (List Int)}
theorem Gn.mem {lo : Nat} {x : List Int} (h : ∀ y, y ∈ L → y ∈ L') (q : Gn g lo L x) : Gn g lo L' x := q.elim .inl fun ⟨a, b⟩ => .inr ⟨h x a, b⟩
theorem PInv.mem (h : ∀ y, y ∈ L ↔ y ∈ L') (I : PInv w n g L) : PInv w n g L' := ⟨I.piv, fun x hx => I.lrw x ((h x).mpr hx), fun a p hp => (I.clo a p hp).sub fun y q => q.mem fun y hy => (h y).mp hy⟩
theorem Same.mem (h : ∀ y, y ∈ L ↔ y ∈ L') : Same w n g g L L' := .of (fun x q => .gen (q.mem fun y hy => (h y).mp hy)) fun x q => .gen (q.mem fun y hy => (h y).mpr hy)
theorem gn_drop {lo : Nat} {r x : List Int} (hz : Zb n r) (q : Gn g lo (r :: L) x) : Sp (2 ^ w) n (Gn g lo L) (ent x) := by
  rcases q with q | ⟨hx, hl⟩
  · exact .gen (.inl q)
  · rcases List.mem_cons.mp hx with e | hx
    · rw [e]
      exact .zero fun k hk => by rw [hz k hk]; exact Int.dvd_zero _
    · exact .gen (.inr ⟨hx, hl⟩)
theorem PInv.drop {r : List Int} (hz : Zb n r) (I : PInv w n g (r :: L)) : PInv w n g L := ⟨I.piv, fun x hx => I.lrw x (List.mem_cons_of_mem _ hx), fun a p hp => (I.clo a p hp).mono fun y q => gn_drop hz q⟩
theorem Same.drop {r : List Int} (hz : Zb n r) : Same w n g g (r :: L) L := .of (fun x q => gn_drop hz q) fun x q => .gen (q.mem fun y hy => List.mem_cons_of_mem _ hy)
theorem Same.mono {r : List Int} : Same w n g g L L := Same.refl
end
/-! ### columns -/
def colP (M : Int) : List Nat → List Int → Pv → List (List Int) → List Int × Pv × List (List Int)
  | [], r, P, W => (r, P, W)
  | a :: as, r, P, W => if ent r a ≠ 0 then colP M as (passP M P r a).1 (passP M P r a).2.1 (W ++ (passP M P r a).2.2) else colP M as r P W
theorem col_ok {w n : Nat} (hw : w ≤ 64) : ∀ (k a : Nat) (r : List Int) (P : Pv) (W : List (List Int)), a + k = n → PInv w n (getP P) (r :: W) → Zb a r →
    PInv w n (getP (colP (2 ^ w) (List.range' a k) r P W).2.1) ((colP (2 ^ w) (List.range' a k) r P W).1 :: (colP (2 ^ w) (List.range' a k) r P W).2.2) ∧ Zb n (colP (2 ^ w) (List.range' a k) r P W).1 ∧
    Same w n (getP P) (getP (colP (2 ^ w) (List.range' a k) r P W).2.1) (r :: W) ((colP (2 ^ w) (List.range' a k) r P W).1 :: (colP (2 ^ w) (List.range' a k) r P W).2.2) ∧
    Phi (phi w (getP (colP (2 ^ w) (List.range' a k) r P W).2.1)) n + (colP (2 ^ w) (List.range' a k) r P W).2.2.length ≤ Phi (phi w (getP P)) n + W.length
  | 0, a, r, P, W, hk, I, hz => ⟨I, fun k h => hz k (by omega), Same.refl, Nat.le_refl _⟩
  | k + 1, a, r, P, W, hk, I, hz => by
    rw [List.range'_succ]
    unfold colP
    by_cases h0 : ent r a ≠ 0
    · rw [if_pos h0]
      have st := pass_ok hw I (by omega) hz h0
      obtain ⟨i1, i2, i3, i4⟩ := col_ok hw k (a + 1) _ _ _ (by omega) st.inv st.zb
      refine ⟨i1, i2, st.same.trans i3, ?_⟩
      have := st.meas
      rw [List.length_append] at i4
      omega
    · rw [if_neg h0]
      have h0' : ent r a = 0 := by
        by_cases q : ent r a = 0
        · exact q
        · exact absurd q h0
      exact col_ok hw k (a + 1) r P W (by omega) I fun j hj => by
        by_cases hja : j = a
        · rw [hja]; exact h0'
        · exact hz j (by omega)
/-! ### the waiting rows -/
def putL (M : Int) (n : Nat) : Nat → Pv → List (List Int) → Pv
  | 0, P, _ => P
  | f + 1, P, W => match W.getLast? with
    | none => P
    | some r => putL M n f (colP M (List.range' 0 n) r P W.dropLast).2.1 (colP M (List.range' 0 n) r P W.dropLast).2.2
theorem last_mem {r : List Int} {W : List (List Int)} (h : W.getLast? = some r) (y : List Int) : y ∈ W ↔ y ∈ r :: W.dropLast := by
  obtain ⟨h1, h2⟩ := List.getLast?_eq_some_iff.mp h
  rw [h2, List.dropLast_concat, List.mem_append, List.mem_singleton, List.mem_cons]
  exact Or.comm
theorem putL_ok {w n : Nat} (hw : w ≤ 64) : ∀ (f : Nat) (P : Pv) (W : List (List Int)), Phi (phi w (getP P)) n + W.length < f → PInv w n (getP P) W →
    PInv w n (getP (putL (2 ^ w) n f P W)) [] ∧ Same w n (getP P) (getP (putL (2 ^ w) n f P W)) W []
  | 0, P, W, hf, _ => by omega
  | f + 1, P, W, hf, I => by
    unfold putL
    cases h : W.getLast? with
    | none =>
      have e := List.getLast?_eq_none_iff.mp h
      subst e
      exact ⟨I, Same.refl⟩
    | some r =>
      dsimp only
      have hm := last_mem h
      have I1 := I.mem hm
      obtain ⟨i1, i2, i3, i4⟩ := col_ok hw n 0 r P W.dropLast (by omega) I1 fun k hk => by omega
      have hl : W.length = W.dropLast.length + 1 := by
        obtain ⟨_, h2⟩ := List.getLast?_eq_some_iff.mp h
        rw [h2]; simp
      obtain ⟨j1, j2⟩ := putL_ok hw f _ _ (by omega) (i1.drop i2)
      exact ⟨j1, (((Same.mem hm).trans i3).trans (Same.drop i2)).trans j2⟩
/-- rows put to a stair, one after another -/
def stairP (M : Int) (n f : Nat) : List (List Int) → Pv → Pv
  | [], P => P
  | r :: rs, P => stairP M n f rs (putL M n f P [r])
theorem Phi_le {f : Nat → Nat} {w : Nat} : ∀ n, (∀ a, a < n → f a ≤ w) → Phi f n ≤ n * w
  | 0, _ => Nat.zero_le _
  | n + 1, h => by
    have := Phi_le (f := f) n fun a ha => h a (by omega)
    have := h n (by omega)
    show Phi f n + f n ≤ (n + 1) * w
    rw [Nat.succ_mul]
    omega
theorem PInv.phi_le {w n : Nat} {g : Nat → Option (List Int)} {L : List (List Int)} (I : PInv w n g L) : Phi (phi w g) n ≤ n * w := Phi_le n fun a ha => by
  unfold phi
  cases h : g a with
  | none => exact Nat.le_refl _
  | some p =>
    obtain ⟨_, _, _, e, he, hp⟩ := I.piv a p h
    show (ent p a).toNat.log2 ≤ w
    rw [hp, log_pow]
    omega
theorem PInv.push {w n : Nat} {g : Nat → Option (List Int)} {r : List Int} (hr : Rw (2 ^ w) n r) (I : PInv w n g []) : PInv w n g [r] := ⟨I.piv, fun x hx => by rw [List.mem_singleton.mp hx]; exact hr, fun a p hp => (I.clo a p hp).sub fun y q => q.mem fun y hy => absurd hy (by simp)⟩
theorem stair_ok {w n f : Nat} (hw : w ≤ 64) (hf : n * w + 1 < f) : ∀ (rs : List (List Int)) (P : Pv), (∀ r ∈ rs, Rw (2 ^ w) n r) → PInv w n (getP P) [] →
    PInv w n (getP (stairP (2 ^ w) n f rs P)) [] ∧ Same w n (getP P) (getP (stairP (2 ^ w) n f rs P)) rs []
  | [], P, _, I => ⟨I, Same.refl⟩
  | r :: rs, P, hr, I => by
    unfold stairP
    obtain ⟨i1, i2⟩ := putL_ok (w := w) (n := n) hw f P [r] (by have := I.phi_le; rw [List.length_singleton]; omega) (I.push (hr r (List.mem_cons_self ..)))
    obtain ⟨j1, j2⟩ := stair_ok hw hf rs _ (fun x hx => hr x (List.mem_cons_of_mem _ hx)) i1
    refine ⟨j1, Same.trans ?_ j2⟩
    refine .of (fun x q => ?_) (fun x q => ?_)
    · rcases q with ⟨b, hb, e⟩ | ⟨hx, hz⟩
      · exact ((i2 _).mp (.gen (.inl ⟨b, hb, e⟩))).sub fun y q => q.mem fun y hy => absurd hy (by simp)
      · rcases List.mem_cons.mp hx with e | hx
        · exact ((i2 _).mp (.gen (.inr ⟨List.mem_singleton.mpr e, hz⟩))).sub fun y q => q.mem fun y hy => absurd hy (by simp)
        · exact .gen (.inr ⟨hx, hz⟩)
    · rcases q with q | ⟨hx, hz⟩
      · exact ((i2 _).mpr (.gen (.inl q))).sub fun y q => q.mem fun y hy => by rw [List.mem_singleton.mp hy]; exact List.mem_cons_self ..
      · exact .gen (.inr ⟨List.mem_cons_of_mem _ hx, hz⟩)
theorem pinv_nil {w n : Nat} : PInv w n (getP []) [] := ⟨(fun a p h => by cases h), (fun x hx => absurd hx (by simp)), fun a p h => by cases h⟩
/-! ### what is left -/
def restP (M : Int) (P : Pv) (most : Nat) : List Nat → List Int → List Int
  | [], r => r
  | a :: as, r => restP M P most as (if a < most then (match getP P a with
    | some p => lessL r p (ent r a / ent p a) M
    | none => r) else r)
section
variable {w n most : Nat} {P : Pv}
theorem rest_rw (I : PInv w n (getP P) []) : ∀ (as : List Nat) (r : List Int), Rw (2 ^ w) n r → Rw (2 ^ w) n (restP (2 ^ w) P most as r) ∧ Sp (2 ^ w) n (Gn (getP P) 0 []) fun k => ent r k - ent (restP (2 ^ w) P most as r) k
  | [], r, hr => ⟨hr, .zero fun k hk => ⟨0, by simp [restP]⟩⟩
  | a :: as, r, hr => by
    unfold restP
    by_cases ha : a < most
    · rw [if_pos ha]
      cases hg : getP P a with
      | none => exact rest_rw I as r hr
      | some p =>
        dsimp only
        obtain ⟨_, hp, _, _⟩ := I.piv a p hg
        have hr1 : Rw (2 ^ w) n (lessL r p (ent r a / ent p a) (2 ^ w)) := rw_less (two_pow_pos w) hr.len hp.len
        obtain ⟨i1, i2⟩ := rest_rw I as _ hr1
        refine ⟨i1, ((Sp.gen (.inl ⟨a, Nat.zero_le _, hg⟩)).smul (ent r a / ent p a) |>.plus i2).congr fun k hk => ?_⟩
        have := less_dv (r := r) (o := p) (c := ent r a / ent p a) (M := 2 ^ w) k (by rw [hr.len]; exact hk) (by rw [hp.len]; exact hk)
        exact dv_eq ((Int.dvd_neg).mpr this) (by omega)
    · rw [if_neg ha]
      exact rest_rw I as r hr
theorem rest_ge : ∀ (as : List Nat) (r : List Int), (∀ a ∈ as, most ≤ a) → restP (2 ^ w) P most as r = r
  | [], r, _ => rfl
  | a :: as, r, h => by
    unfold restP
    rw [if_neg (by have := h a (List.mem_cons_self ..); omega)]
    exact rest_ge as r fun b hb => h b (List.mem_cons_of_mem _ hb)
/-- a multiple of the first pivot, and sums of later ones -/
theorem Sp.first {g : Nat → Option (List Int)} {a : Nat} {p : List Int} {v : Nat → Int} (hg : g a = some p) (h : Sp (2 ^ w) n (Gn g a []) v) : ∃ c, Sp (2 ^ w) n (Gn g (a + 1) []) fun k => v k - c * ent p k := by
  induction h with
  | zero h => exact ⟨0, .zero fun k hk => by rw [Int.zero_mul, Int.sub_zero]; exact h k hk⟩
  | @add v u x d hx hs h ih =>
    obtain ⟨c, ih⟩ := ih
    rcases hx with ⟨b, hb, e⟩ | ⟨hx, _⟩
    · by_cases hba : b = a
      · subst hba
        rw [hg] at e
        cases e
        exact ⟨c + d, ih.congr fun k hk => dv_eq (h k hk) (by rw [Int.add_mul]; omega)⟩
      · exact ⟨c, .add d (.inl ⟨b, by omega, e⟩) ih fun k hk => dv_eq (h k hk) (by omega)⟩
    · exact absurd hx (by simp)
theorem rest_ok (I : PInv w n (getP P) []) {z : Nat → Int} (hz : ∀ k, k < most → z k = 0) : ∀ (as : List Nat) (lo : Nat) (r : List Int), as.Pairwise (· < ·) → (∀ a ∈ as, lo ≤ a ∧ getP P a ≠ none) → (∀ b, lo ≤ b → getP P b ≠ none → b ∈ as) → lo ≤ most → Rw (2 ^ w) n r →
    Sp (2 ^ w) n (Gn (getP P) lo []) (fun k => ent r k + z k) → Sp (2 ^ w) n (Gn (getP P) most []) fun k => ent (restP (2 ^ w) P most as r) k + z k
  | [], lo, r, _, _, hall, hlo, hr, h => h.sub fun y q => by
    rcases q with ⟨b, hb, e⟩ | ⟨hx, _⟩
    · exact absurd (hall b hb (by rw [e]; simp)) (by simp)
    · exact absurd hx (by simp)
  | a :: as, lo, r, hs, hin, hall, hlo, hr, h => by
    obtain ⟨hla, hne⟩ := hin a (List.mem_cons_self ..)
    cases hs with
    | cons hs1 hs2 =>
      have hup : Sp (2 ^ w) n (Gn (getP P) a []) (fun k => ent r k + z k) := h.sub fun y q => by
        rcases q with ⟨b, hb, e⟩ | ⟨hx, _⟩
        · have hb2 := hall b hb (by rw [e]; simp)
          refine .inl ⟨b, ?_, e⟩
          rcases List.mem_cons.mp hb2 with q | q
          · omega
          · exact Nat.le_of_lt (hs1 b q)
        · exact absurd hx (by simp)
      by_cases ha : a < most
      · unfold restP
        rw [if_pos ha]
        cases hg : getP P a with
        | none => exact absurd hg hne
        | some p =>
          dsimp only
          obtain ⟨han, hp, hpz, e, he, hpa⟩ := I.piv a p hg
          have hr1 : Rw (2 ^ w) n (lessL r p (ent r a / ent p a) (2 ^ w)) := rw_less (two_pow_pos w) hr.len hp.len
          refine rest_ok I hz as (a + 1) _ hs2 (fun b hb => ⟨hs1 b hb, (hin b (List.mem_cons_of_mem _ hb)).2⟩) (fun b hb hn => ?_) ha hr1 ?_
          · rcases List.mem_cons.mp (hall b (by omega) hn) with q | q
            · omega
            · exact q
          · obtain ⟨c, hc⟩ := Sp.first hg hup
            have hca := hc.at0 han fun x q => by
              rcases q with ⟨b, hb, e⟩ | ⟨hx, _⟩
              · obtain ⟨_, _, hxz, _⟩ := I.piv b x e
                rw [hxz a (by omega)]
                exact Int.dvd_zero _
              · exact absurd hx (by simp)
            rw [hz a ha, Int.add_zero] at hca
            have hdiv : (2 : Int) ^ e ∣ ent r a := by
              have h1 : (2 : Int) ^ e ∣ ent r a - c * ent p a := Int.dvd_trans (pow_dv (Nat.le_of_lt he)) hca
              rw [hpa] at h1
              exact dv_eq (dv_add h1 (Int.dvd_mul_left c (2 ^ e))) (by omega)
            obtain ⟨q, hq⟩ := hdiv
            have hqd : ent r a / ent p a = q := by rw [hpa, hq]; exact Int.mul_ediv_cancel_left _ (Int.ne_of_gt (two_pow_pos e))
            rw [hqd]
            rw [hpa, hq] at hca
            have hw2 : (2 : Int) ^ w = 2 ^ e * 2 ^ (w - e) := by rw [← Int.pow_add]; congr 1; omega
            obtain ⟨t, ht⟩ := hca
            have hcq : q - c = 2 ^ (w - e) * t := by
              have h1 : (2 : Int) ^ e * (q - c) = 2 ^ e * (2 ^ (w - e) * t) := by
                rw [Int.mul_sub, ← Int.mul_assoc, ← hw2, ← ht, Int.mul_comm c]
              exact Int.eq_of_mul_eq_mul_left (Int.ne_of_gt (two_pow_pos e)) h1
            have hcl := I.clo a p hg
            rw [hpa, pow_div (Nat.le_of_lt he)] at hcl
            refine (hc.plus (hcl.smul (-t))).congr fun k hk => ?_
            have hl := less_dv (r := r) (o := p) (c := q) (M := 2 ^ w) k (by rw [hr.len]; exact hk) (by rw [hp.len]; exact hk)
            refine dv_eq hl ?_
            have e1 : q = c + 2 ^ (w - e) * t := by omega
            rw [e1, Int.add_mul, Int.neg_mul, ← Int.mul_assoc t, Int.mul_comm t]
            omega
      · rw [rest_ge (a :: as) r fun b hb => by
          rcases List.mem_cons.mp hb with q | q
          · omega
          · have := hs1 b q; omega]
        exact hup.sub fun y q => q.lo (by omega)
/-- of a sum nothing is left -/
theorem rest_zero (I : PInv w n (getP P) []) {z : Nat → Int} (hz : ∀ k, k < most → z k = 0) {as : List Nat} {r : List Int} (hs : as.Pairwise (· < ·)) (hin : ∀ a ∈ as, getP P a ≠ none) (hall : ∀ b, getP P b ≠ none → b ∈ as) (hr : Rw (2 ^ w) n r)
    (h : Sp (2 ^ w) n (Gn (getP P) 0 []) fun k => ent r k + z k) : ∀ k, k < most → k < n → ent (restP (2 ^ w) P most as r) k = 0 := fun k hk hn => by
  have q := (rest_ok I hz as 0 r hs (fun a ha => ⟨Nat.zero_le _, hin a ha⟩) (fun b _ hb => hall b hb) (Nat.zero_le _) hr h).at0 hn fun x q => by
    rcases q with ⟨b, hb, e⟩ | ⟨hx, _⟩
    · obtain ⟨_, _, hxz, _⟩ := I.piv b x e
      rw [hxz k (by omega)]
      exact Int.dvd_zero _
    · exact absurd hx (by simp)
  rw [hz k hk, Int.add_zero] at q
  obtain ⟨b0, b1⟩ := (rest_rw (most := most) I as r hr).1.bd k hn
  exact red0 b0 b1 q
end
end Md

set_option Elab.async false
set_option linter.all false
set_option maxRecDepth 100000
set_option autoImplicit false
set_option maxHeartbeats 1000000
/-! MdH: stairs: sums that are 0 ahead of a column; tidied rows; these are unique; how many sums there are. -/
namespace Md
section
variable {w n : Nat} {g g2 : Nat → Option (List Int)} {a b : Nat} {p r : List Int} {v : Nat → Int}
theorem gn_zero (I : PInv w n g []) {lo k : Nat} {x : List Int} (hk : k < lo) (q : Gn g lo [] x) : ent x k = 0 := by
  rcases q with ⟨b, hb, e⟩ | ⟨hx, _⟩
  · obtain ⟨_, _, hxz, _⟩ := I.piv b x e
    exact hxz k (by omega)
  · exact absurd hx (by simp)
theorem gn_at0 (I : PInv w n g []) {lo k : Nat} (hk : k < lo) (hn : k < n) (h : Sp (2 ^ w) n (Gn g lo []) v) : (2 : Int) ^ w ∣ v k :=
  h.at0 hn fun x q => by rw [gn_zero I hk q]; exact Int.dvd_zero _
theorem gn_none (h : g a = none) {x : List Int} (q : Gn g a [] x) : Gn g (a + 1) [] x := by
  rcases q with ⟨b, hb, e⟩ | ⟨hx, _⟩
  · refine .inl ⟨b, ?_, e⟩
    rcases Nat.lt_or_ge a b with z | z
    · exact z
    · have : b = a := by omega
      rw [this, h] at e
      cases e
  · exact absurd hx (by simp)
/-- of a sum of rows from a column on: what stands there is a multiple of the pivot -/
theorem first_dv (I : PInv w n g []) (hg : g a = some p) (h : Sp (2 ^ w) n (Gn g a []) v) : ent p a ∣ v a := by
  obtain ⟨han, hp, hpz, e, he, hpa⟩ := I.piv a p hg
  obtain ⟨c, hc⟩ := Sp.first hg h
  have h1 := gn_at0 I (Nat.lt_succ_self a) han hc
  have h2 : ent p a ∣ v a - c * ent p a := Int.dvd_trans (by rw [hpa]; exact pow_dv (Nat.le_of_lt he)) h1
  exact dv_eq (Int.dvd_add h2 (Int.dvd_mul_left c (ent p a))) (by omega)
/-- one column more -/
theorem howell1 (I : PInv w n g []) (han : a < n) (h : Sp (2 ^ w) n (Gn g a []) v) (hv : (2 : Int) ^ w ∣ v a) : Sp (2 ^ w) n (Gn g (a + 1) []) v := by
  cases hg : g a with
  | none => exact h.sub fun x q => gn_none hg q
  | some p =>
    obtain ⟨_, hp, hpz, e, he, hpa⟩ := I.piv a p hg
    obtain ⟨c, hc⟩ := Sp.first hg h
    have h1 := gn_at0 I (Nat.lt_succ_self a) han hc
    have h2 : (2 : Int) ^ w ∣ c * ent p a := dv_eq (dv_sub hv h1) (by omega)
    rw [hpa] at h2
    have hw2 : (2 : Int) ^ w = 2 ^ (w - e) * 2 ^ e := by rw [← Int.pow_add]; congr 1; omega
    obtain ⟨t, ht⟩ := h2
    have hct : c = 2 ^ (w - e) * t := by
      refine Int.eq_of_mul_eq_mul_right (Int.ne_of_gt (two_pow_pos e)) ?_
      rw [ht, hw2, Int.mul_assoc, Int.mul_assoc, Int.mul_comm t]
    have hcl := I.clo a p hg
    rw [hpa, pow_div (Nat.le_of_lt he)] at hcl
    refine (hc.plus (hcl.smul t)).congr fun k hk => dv_eq (Int.dvd_zero _) ?_
    rw [hct, ← Int.mul_assoc, Int.mul_comm t]
    omega
theorem howell (I : PInv w n g []) : ∀ a, a ≤ n → Sp (2 ^ w) n (Gn g 0 []) v → (∀ k, k < a → (2 : Int) ^ w ∣ v k) → Sp (2 ^ w) n (Gn g a []) v
  | 0, _, h, _ => h
  | a + 1, ha, h, hv => howell1 I ha (howell I a (by omega) h fun k hk => hv k (by omega)) (hv a (Nat.lt_succ_self a))
theorem gn_last (I : PInv w n g []) (h : Sp (2 ^ w) n (Gn g n []) v) : ∀ k, k < n → (2 : Int) ^ w ∣ v k := fun k hk => gn_at0 I hk hk h
/-! ### the pivots are those of the sums -/
theorem piv_some (I : PInv w n g []) (I2 : PInv w n g2 []) (hs : ∀ v, Sp (2 ^ w) n (Gn g 0 []) v → Sp (2 ^ w) n (Gn g2 0 []) v) (hg : g a = some p) : ∃ q, g2 a = some q ∧ ent q a ∣ ent p a := by
  obtain ⟨han, hp, hpz, e, he, hpa⟩ := I.piv a p hg
  have h1 : Sp (2 ^ w) n (Gn g2 a []) (ent p) := howell I2 a (Nat.le_of_lt han) (hs _ (.gen (.inl ⟨a, Nat.zero_le _, hg⟩))) fun k hk => by rw [hpz k hk]; exact Int.dvd_zero _
  cases hq : g2 a with
  | none =>
    have h2 := gn_at0 I2 (Nat.lt_succ_self a) han (h1.sub fun x q => gn_none hq q)
    obtain ⟨b0, b1⟩ := hp.bd a han
    have := red0 b0 b1 h2
    rw [hpa] at this
    have := two_pow_pos e
    omega
  | some q => exact ⟨q, rfl, first_dv I2 hq h1⟩
theorem piv_eq (I : PInv w n g []) (I2 : PInv w n g2 []) (hs : ∀ v, Sp (2 ^ w) n (Gn g 0 []) v ↔ Sp (2 ^ w) n (Gn g2 0 []) v) {q : List Int} (hg : g a = some p) (hq : g2 a = some q) : ent p a = ent q a := by
  obtain ⟨_, _, _, e, _, h1⟩ := I.piv a p hg
  obtain ⟨_, _, _, e2, _, h2⟩ := I2.piv a q hq
  obtain ⟨q', g1, d1⟩ := piv_some I I2 (fun v => (hs v).mp) hg
  obtain ⟨p', g3, d2⟩ := piv_some I2 I (fun v => (hs v).mpr) hq
  rw [hq] at g1
  cases g1
  rw [hg] at g3
  cases g3
  have hp := two_pow_pos e
  have hq := two_pow_pos e2
  exact Int.le_antisymm (Int.le_of_dvd (by omega) d2) (Int.le_of_dvd (by omega) d1)
theorem piv_none (I : PInv w n g []) (I2 : PInv w n g2 []) (hs : ∀ v, Sp (2 ^ w) n (Gn g 0 []) v ↔ Sp (2 ^ w) n (Gn g2 0 []) v) : g a ≠ none ↔ g2 a ≠ none := by
  constructor
  · intro h
    cases hg : g a with
    | none => exact absurd hg h
    | some p =>
      obtain ⟨q, e, _⟩ := piv_some I I2 (fun v => (hs v).mp) hg
      rw [e]
      simp
  · intro h
    cases hg : g2 a with
    | none => exact absurd hg h
    | some p =>
      obtain ⟨q, e, _⟩ := piv_some I2 I (fun v => (hs v).mpr) hg
      rw [e]
      simp
/-! ### tidied rows -/
structure Tid (w n : Nat) (g : Nat → Option (List Int)) (a : Nat) (p r : List Int) : Prop where
  rw_ : Rw (2 ^ w) n r
  zb : Zb a r
  piv : ent r a = ent p a
  sp : Sp (2 ^ w) n (Gn g (a + 1) []) fun k => ent p k - ent r k
  lt : ∀ b q, g b = some q → a < b → ent r b < ent q b
theorem Tid.mem (t : Tid w n g a p r) (hg : g a = some p) : Sp (2 ^ w) n (Gn g a []) (ent r) :=
  ((Sp.gen (.inl ⟨a, Nat.le_refl _, hg⟩)).plus ((t.sp.sub fun x q => q.lo (Nat.le_succ a)).smul (-1))).congr fun k hk => dv_eq (Int.dvd_zero _) (by omega)
/-- they are unique -/
theorem tid_uniq (I : PInv w n g []) (I2 : PInv w n g2 []) (hs : ∀ v, Sp (2 ^ w) n (Gn g 0 []) v ↔ Sp (2 ^ w) n (Gn g2 0 []) v) {q r2 : List Int} (hg : g a = some p) (hq : g2 a = some q) (t : Tid w n g a p r) (t2 : Tid w n g2 a q r2) : ∀ k, k < n → ent r k = ent r2 k := by
  have hM := two_pow_pos w
  have hd : Sp (2 ^ w) n (Gn g 0 []) fun k => ent r k - ent r2 k :=
    (((t.mem hg).sub fun x q => q.lo (Nat.zero_le a)).plus (((hs _).mpr ((t2.mem hq).sub fun x q => q.lo (Nat.zero_le a))).smul (-1))).congr fun k hk => dv_eq (Int.dvd_zero _) (by omega)
  intro k
  induction k using Nat.strongRecOn with
  | ind k ih =>
    intro hk
    obtain ⟨x0, x1⟩ := t.rw_.bd k hk
    obtain ⟨y0, y1⟩ := t2.rw_.bd k hk
    rcases Nat.lt_trichotomy k a with h | h | h
    · rw [t.zb k h, t2.zb k h]
    · rw [h, t.piv, t2.piv]
      exact piv_eq I I2 hs hg hq
    · have h1 : Sp (2 ^ w) n (Gn g k []) fun k => ent r k - ent r2 k := howell I k (Nat.le_of_lt hk) hd fun j hj => by
        rw [ih j hj (by omega), Int.sub_self]
        exact Int.dvd_zero _
      cases hgk : g k with
      | none => exact red_eq x0 x1 y0 y1 (gn_at0 I (Nat.lt_succ_self k) hk (h1.sub fun x q => gn_none hgk q))
      | some u =>
        obtain ⟨u2, e2, _⟩ := piv_some I I2 (fun v => (hs v).mp) hgk
        have e3 := piv_eq I I2 hs hgk e2
        have l1 := t.lt k u hgk h
        have l2 := t2.lt k u2 e2 h
        rw [← e3] at l2
        exact red_eq x0 l1 y0 l2 (first_dv I hgk h1)
end
/-! ### the rows in their order -/
def tidL (M : Int) (n : Nat) (P : Pv) : List Nat → List (List Int)
  | [] => []
  | a :: as => restP M P n as ((getP P a).getD []) :: tidL M n P as
section
variable {w n : Nat} {P : Pv}
/-- reducing by later pivots -/
theorem rest_tid (I : PInv w n (getP P) []) : ∀ (as : List Nat) (lo : Nat) (r : List Int), as.Pairwise (· < ·) → (∀ a ∈ as, lo ≤ a ∧ getP P a ≠ none) → (∀ b, lo ≤ b → getP P b ≠ none → b ∈ as) → Rw (2 ^ w) n r →
    Rw (2 ^ w) n (restP (2 ^ w) P n as r) ∧ (∀ k, k < lo → k < n → ent (restP (2 ^ w) P n as r) k = ent r k) ∧ (Sp (2 ^ w) n (Gn (getP P) lo []) fun k => ent r k - ent (restP (2 ^ w) P n as r) k) ∧ ∀ b q, getP P b = some q → lo ≤ b → ent (restP (2 ^ w) P n as r) b < ent q b
  | [], lo, r, _, _, hall, hr => ⟨hr, fun _ _ _ => rfl, .zero fun k hk => by show (2 : Int) ^ w ∣ ent r k - ent r k; rw [Int.sub_self]; exact Int.dvd_zero _, fun b q hb hl => absurd (hall b hl (by rw [hb]; simp)) (by simp)⟩
  | a :: as, lo, r, hs, hin, hall, hr => by
    obtain ⟨hla, hne⟩ := hin a (List.mem_cons_self ..)
    cases hs with
    | cons hs1 hs2 =>
      cases hg : getP P a with
      | none => exact absurd hg hne
      | some p =>
        obtain ⟨han, hp, hpz, e, he, hpa⟩ := I.piv a p hg
        have hM := two_pow_pos w
        have hr1 : Rw (2 ^ w) n (lessL r p (ent r a / ent p a) (2 ^ w)) := rw_less hM hr.len hp.len
        have e0 : restP (2 ^ w) P n (a :: as) r = restP (2 ^ w) P n as (lessL r p (ent r a / ent p a) (2 ^ w)) := by
          conv => lhs; unfold restP
          rw [if_pos han, hg]
        rw [e0]
        obtain ⟨i1, i2, i3, i4⟩ := rest_tid I as (a + 1) _ hs2 (fun b hb => ⟨hs1 b hb, (hin b (List.mem_cons_of_mem _ hb)).2⟩) (fun b hb hn => by
          rcases List.mem_cons.mp (hall b (by omega) hn) with q | q
          · omega
          · exact q) hr1
        have hel : ∀ k, k < n → ent (lessL r p (ent r a / ent p a) (2 ^ w)) k = (ent r k - ent p k * (ent r a / ent p a)) % 2 ^ w := fun k hk => ent_less k (by rw [hr.len]; exact hk) (by rw [hp.len]; exact hk)
        have hez : ∀ k, k < a → k < n → ent (lessL r p (ent r a / ent p a) (2 ^ w)) k = ent r k := fun k hk hkn => by
          rw [hel k hkn, hpz k hk, Int.zero_mul, Int.sub_zero]
          obtain ⟨x0, x1⟩ := hr.bd k hkn
          exact Int.emod_eq_of_lt x0 x1
        refine ⟨i1, fun k hk hkn => by rw [i2 k (by omega) hkn, hez k (by omega) hkn], ?_, fun b q hb hl => ?_⟩
        · refine (((Sp.gen (.inl ⟨a, hla, hg⟩)).smul (ent r a / ent p a)).plus (i3.sub fun x q => q.lo (by omega))).congr fun k hk => ?_
          have := less_dv (r := r) (o := p) (c := ent r a / ent p a) (M := 2 ^ w) k (by rw [hr.len]; exact hk) (by rw [hp.len]; exact hk)
          exact dv_eq ((Int.dvd_neg).mpr this) (by omega)
        · by_cases hba : b = a
          · subst hba
            rw [hg] at hb
            cases hb
            rw [i2 b (Nat.lt_succ_self b) han, hel b han]
            obtain ⟨x0, x1⟩ := hr.bd b han
            have hp0 : 0 < ent p b := by rw [hpa]; exact two_pow_pos e
            have e1 : ent r b - ent p b * (ent r b / ent p b) = ent r b % ent p b := by
              have := Int.emod_add_mul_ediv (ent r b) (ent p b)
              omega
            have l1 := Int.emod_lt_of_pos (ent r b) hp0
            have l0 := Int.emod_nonneg (ent r b) (Int.ne_of_gt hp0)
            obtain ⟨_, y1⟩ := hp.bd b han
            rw [e1, Int.emod_eq_of_lt l0 (by omega)]
            exact l1
          · have hm : b ∈ as := by
              rcases List.mem_cons.mp (hall b hl (by rw [hb]; simp)) with z | z
              · exact absurd z hba
              · exact z
            exact i4 b q hb (hs1 b hm)
/-- the row of a column, tidied -/
theorem tid_ok (I : PInv w n (getP P) []) {a : Nat} {as : List Nat} {p : List Int} (hg : getP P a = some p) (hs : as.Pairwise (· < ·)) (hin : ∀ b ∈ as, a < b ∧ getP P b ≠ none) (hall : ∀ b, a < b → getP P b ≠ none → b ∈ as) : Tid w n (getP P) a p (restP (2 ^ w) P n as p) := by
  obtain ⟨han, hp, hpz, e, he, hpa⟩ := I.piv a p hg
  obtain ⟨i1, i2, i3, i4⟩ := rest_tid I as (a + 1) p hs hin hall hp
  exact ⟨i1, fun k hk => by rw [i2 k (by omega) (by omega)]; exact hpz k hk, i2 a (Nat.lt_succ_self a) han, i3, fun b q hb hl => i4 b q hb hl⟩
end
end Md

set_option Elab.async false
set_option linter.all false
set_option maxRecDepth 100000
set_option autoImplicit false
set_option maxHeartbeats 1000000
/-! MdI: the tidied rows as a list; what they generate; how many sums there are. -/
namespace Md
theorem rw_ext {M : Int} {n : Nat} {x y : List Int} (hx : Rw M n x) (hy : Rw M n y) (h : ∀ k, k < n → ent x k = ent y k) : x = y := by
  refine List.ext_getElem? fun k => ?_
  by_cases hk : k < n
  · have e1 : x.getD k 0 = y.getD k 0 := h k hk
    rw [List.getD_eq_getElem?_getD, List.getD_eq_getElem?_getD, List.getElem?_eq_getElem (by rw [hx.len]; exact hk), List.getElem?_eq_getElem (by rw [hy.len]; exact hk)] at e1
    rw [List.getElem?_eq_getElem (by rw [hx.len]; exact hk), List.getElem?_eq_getElem (by rw [hy.len]; exact hk)]
    exact congrArg some e1
  · rw [List.getElem?_eq_none (by rw [hx.len]; omega), List.getElem?_eq_none (by rw [hy.len]; omega)]
theorem sorted_ext : ∀ {xs ys : List Nat}, xs.Pairwise (· < ·) → ys.Pairwise (· < ·) → (∀ a, a ∈ xs ↔ a ∈ ys) → xs = ys
  | [], [], _, _, _ => rfl
  | [], y :: ys, _, _, h => absurd ((h y).mpr (List.mem_cons_self ..)) (by simp)
  | x :: xs, [], _, _, h => absurd ((h x).mp (List.mem_cons_self ..)) (by simp)
  | x :: xs, y :: ys, .cons a1 a2, .cons b1 b2, h => by
    have e : x = y := by
      rcases List.mem_cons.mp ((h x).mp (List.mem_cons_self ..)) with z | z
      · exact z
      · rcases List.mem_cons.mp ((h y).mpr (List.mem_cons_self ..)) with z2 | z2
        · exact z2.symm
        · have := b1 x z
          have := a1 y z2
          omega
    subst e
    rw [sorted_ext a2 b2 fun a => ?_]
    constructor
    · intro ha
      rcases List.mem_cons.mp ((h a).mp (List.mem_cons_of_mem _ ha)) with z | z
      · have := a1 a ha; omega
      · exact z
    · intro ha
      rcases List.mem_cons.mp ((h a).mpr (List.mem_cons_of_mem _ ha)) with z | z
      · have := b1 a ha; omega
      · exact z
/-- the columns of the pivots, in their order -/
structure Cs (P : Pv) (lo : Nat) (as : List Nat) : Prop where
  st : as.Pairwise (· < ·)
  inn : ∀ a ∈ as, lo ≤ a ∧ getP P a ≠ none
  all : ∀ b, lo ≤ b → getP P b ≠ none → b ∈ as
theorem Cs.tail {P : Pv} {lo a : Nat} {as : List Nat} (h : Cs P lo (a :: as)) : Cs P (a + 1) as where
  st := by cases h.st with | cons _ q => exact q
  inn := fun b hb => ⟨by cases h.st with | cons q _ => exact q b hb, (h.inn b (List.mem_cons_of_mem _ hb)).2⟩
  all := fun b hb hn => by
    have := (h.inn a (List.mem_cons_self ..)).1
    rcases List.mem_cons.mp (h.all b (by omega) hn) with z | z
    · omega
    · exact z
section
variable {w n : Nat} {P P2 : Pv}
theorem Cs.tid {lo a : Nat} {as : List Nat} (I : PInv w n (getP P) []) (h : Cs P lo (a :: as)) : ∃ p, getP P a = some p ∧ Tid w n (getP P) a p (restP (2 ^ w) P n as ((getP P a).getD [])) := by
  cases hg : getP P a with
  | none => exact absurd hg (h.inn a (List.mem_cons_self ..)).2
  | some p => exact ⟨p, rfl, tid_ok I hg h.tail.st h.tail.inn h.tail.all⟩
theorem tidL_get (I : PInv w n (getP P) []) : ∀ {as : List Nat} {lo i : Nat} {x : List Int}, Cs P lo as → (tidL (2 ^ w) n P as)[i]? = some x → ∃ a p, as[i]? = some a ∧ getP P a = some p ∧ Tid w n (getP P) a p x
  | [], _, _, _, _, e => by simp [tidL] at e
  | a :: as, lo, 0, x, h, e => by
    obtain ⟨p, hp, t⟩ := h.tid I
    simp [tidL] at e
    subst e
    exact ⟨a, p, rfl, hp, t⟩
  | a :: as, lo, i + 1, x, h, e => tidL_get (i := i) I h.tail (by simpa [tidL] using e)
theorem tidL_length (M : Int) : ∀ as : List Nat, (tidL M n P as).length = as.length
  | [] => rfl
  | _ :: as => congrArg Nat.succ (tidL_length M as)
theorem tidL_mem (I : PInv w n (getP P) []) {as : List Nat} {lo a : Nat} (h : Cs P lo as) (ha : a ∈ as) : ∃ p x, getP P a = some p ∧ Tid w n (getP P) a p x ∧ x ∈ tidL (2 ^ w) n P as := by
  obtain ⟨i, hi⟩ := List.getElem?_of_mem ha
  have hl := (List.getElem?_eq_some_iff.mp hi).1
  rw [← tidL_length (P := P) (n := n) (2 ^ w)] at hl
  obtain ⟨b, p, h1, h2, h3⟩ := tidL_get (i := i) I h (List.getElem?_eq_getElem hl)
  rw [hi] at h1
  cases h1
  exact ⟨p, _, h2, h3, List.getElem_mem hl⟩
theorem tidL_uniq' (I : PInv w n (getP P) []) (I2 : PInv w n (getP P2) []) (hs : ∀ v, Sp (2 ^ w) n (Gn (getP P) 0 []) v ↔ Sp (2 ^ w) n (Gn (getP P2) 0 []) v) : ∀ {as : List Nat} {lo : Nat}, Cs P lo as → Cs P2 lo as → tidL (2 ^ w) n P as = tidL (2 ^ w) n P2 as
  | [], _, _, _ => rfl
  | a :: as, lo, h, h2 => by
    obtain ⟨p, hp, t⟩ := h.tid I
    obtain ⟨q, hq, t2⟩ := h2.tid I2
    show restP (2 ^ w) P n as ((getP P a).getD []) :: tidL (2 ^ w) n P as = restP (2 ^ w) P2 n as ((getP P2 a).getD []) :: tidL (2 ^ w) n P2 as
    rw [rw_ext t.rw_ t2.rw_ (tid_uniq I I2 hs hp hq t t2), tidL_uniq' I I2 hs h.tail h2.tail]
theorem tidL_uniq (I : PInv w n (getP P) []) (I2 : PInv w n (getP P2) []) (hs : ∀ v, Sp (2 ^ w) n (Gn (getP P) 0 []) v ↔ Sp (2 ^ w) n (Gn (getP P2) 0 []) v) {as as2 : List Nat} (h : Cs P 0 as) (h2 : Cs P2 0 as2) : tidL (2 ^ w) n P as = tidL (2 ^ w) n P2 as2 := by
  have e : as = as2 := sorted_ext h.st h2.st fun a => by
    constructor
    · intro ha
      exact h2.all a (Nat.zero_le _) ((piv_none I I2 hs).mp (h.inn a ha).2)
    · intro ha
      exact h.all a (Nat.zero_le _) ((piv_none I I2 hs).mpr (h2.inn a ha).2)
  subst e
  exact tidL_uniq' I I2 hs h h2
/-- the tidied rows that are 0 ahead of a column -/
def TG (T : List (List Int)) (at_ : Nat) (x : List Int) : Prop := x ∈ T ∧ Zb at_ x
theorem tid_ge (I : PInv w n (getP P) []) {a b : Nat} {p x : List Int} (hg : getP P a = some p) (t : Tid w n (getP P) a p x) (hz : Zb b x) : b ≤ a := by
  rcases Nat.lt_or_ge a b with q | q
  · obtain ⟨_, _, _, e, _, hpa⟩ := I.piv a p hg
    have h1 := hz a q
    rw [t.piv, hpa] at h1
    have := two_pow_pos e
    omega
  · exact q
theorem tg_sp (I : PInv w n (getP P) []) {as : List Nat} (h : Cs P 0 as) (at_ : Nat) {v : Nat → Int} (q : Sp (2 ^ w) n (TG (tidL (2 ^ w) n P as) at_) v) : Sp (2 ^ w) n (Gn (getP P) at_ []) v := q.mono fun x ⟨hx, hz⟩ => by
  obtain ⟨i, hi⟩ := List.getElem?_of_mem hx
  obtain ⟨a, p, _, h2, t⟩ := tidL_get I h hi
  exact (t.mem h2).sub fun y q => q.lo (tid_ge I h2 t hz)
theorem sp_tg (I : PInv w n (getP P) []) {as : List Nat} (h : Cs P 0 as) : ∀ (k a : Nat), a + k = n → ∀ {v : Nat → Int}, Sp (2 ^ w) n (Gn (getP P) a []) v → Sp (2 ^ w) n (TG (tidL (2 ^ w) n P as) a) v
  | 0, a, e, v, q => by
    rw [Nat.add_zero] at e
    subst e
    exact .zero fun k hk => gn_last I q k hk
  | k + 1, a, e, v, q => by
    have ih := fun {v : Nat → Int} (q : Sp (2 ^ w) n (Gn (getP P) (a + 1) []) v) => (sp_tg I h k (a + 1) (by omega) q).sub (G' := TG (tidL (2 ^ w) n P as) a) fun y ⟨h1, h2⟩ => ⟨h1, fun j hj => h2 j (by omega)⟩
    cases hg : getP P a with
    | none => exact ih (q.sub fun x z => gn_none hg z)
    | some p =>
      obtain ⟨c, hc⟩ := Sp.first hg q
      obtain ⟨p', x, hp', t, hx⟩ := tidL_mem I h (h.all a (Nat.zero_le _) (by rw [hg]; simp))
      rw [hg] at hp'
      cases hp'
      have h1 : Sp (2 ^ w) n (TG (tidL (2 ^ w) n P as) a) (ent p) := ((Sp.gen ⟨hx, t.zb⟩).plus (ih t.sp)).congr fun k hk => dv_eq (Int.dvd_zero _) (by omega)
      exact ((ih hc).comb c h1).congr fun k hk => dv_eq (Int.dvd_zero _) (by omega)
theorem tg_iff (I : PInv w n (getP P) []) {as : List Nat} (h : Cs P 0 as) {a : Nat} (ha : a ≤ n) {v : Nat → Int} : Sp (2 ^ w) n (TG (tidL (2 ^ w) n P as) a) v ↔ Sp (2 ^ w) n (Gn (getP P) a []) v := ⟨tg_sp I h a, sp_tg I h (n - a) a (by omega)⟩
/-- sums that are 0 ahead of a column -/
theorem due_iff (I : PInv w n (getP P) []) {as : List Nat} (h : Cs P 0 as) {a : Nat} (ha : a ≤ n) {x : List Int} (hx : Rw (2 ^ w) n x) : Sp (2 ^ w) n (TG (tidL (2 ^ w) n P as) a) (ent x) ↔ Sp (2 ^ w) n (Gn (getP P) 0 []) (ent x) ∧ Zb a x := by
  rw [tg_iff I h ha]
  constructor
  · intro q
    refine ⟨q.sub fun y z => z.lo (Nat.zero_le _), fun k hk => ?_⟩
    obtain ⟨b0, b1⟩ := hx.bd k (by omega)
    exact red0 b0 b1 (gn_at0 I hk (by omega) q)
  · rintro ⟨q, hz⟩
    exact howell I a ha q fun k hk => by rw [hz k hk]; exact Int.dvd_zero _
end
/-! ### how many sums there are -/
def elsL (M : Int) (n : Nat) (g : Nat → Option (List Int)) : Nat → Nat → List (List Int)
  | 0, _ => [List.replicate n 0]
  | k + 1, a => match g a with
    | some p => (List.range (M / ent p a).toNat).flatMap fun (c : Nat) => (elsL M n g k (a + 1)).map fun x => lessL x p (-(c : Int)) M
    | none => elsL M n g k (a + 1)
def cntG (M : Int) (g : Nat → Option (List Int)) : Nat → Nat → Nat
  | 0, _ => 1
  | k + 1, a => (match g a with
    | some p => (M / ent p a).toNat
    | none => 1) * cntG M g k (a + 1)
theorem flat_len {T : Type} {f : Nat → List T} {m : Nat} (h : ∀ c, (f c).length = m) : ∀ l : List Nat, (l.flatMap f).length = l.length * m
  | [] => by simp
  | c :: l => by
    rw [List.flatMap_cons, List.length_append, h c, flat_len h l, List.length_cons, Nat.add_mul, Nat.one_mul, Nat.add_comm]
theorem els_len (M : Int) (n : Nat) (g : Nat → Option (List Int)) : ∀ k a, (elsL M n g k a).length = cntG M g k a
  | 0, _ => rfl
  | k + 1, a => by
    unfold elsL cntG
    cases g a with
    | none => simp only [Nat.one_mul]; exact els_len M n g k (a + 1)
    | some p =>
      dsimp only
      rw [flat_len (m := cntG M g k (a + 1)) (fun c => by rw [List.length_map, els_len M n g k (a + 1)]), List.length_range]
theorem ent_rep {m i : Nat} : ent (List.replicate m 0) i = 0 := by
  show (List.replicate m (0 : Int)).getD i 0 = 0
  rw [List.getD_eq_getElem?_getD, List.getElem?_replicate]
  split <;> rfl
section
variable {w n : Nat} {g : Nat → Option (List Int)}
theorem less_ent {M : Int} {x p : List Int} {c : Int} (hx : Rw M n x) (hp : Rw M n p) {k : Nat} (hk : k < n) : ent (lessL x p c M) k = (ent x k - ent p k * c) % M := ent_less k (by rw [hx.len]; exact hk) (by rw [hp.len]; exact hk)
theorem els_ok (I : PInv w n g []) : ∀ k a, a + k = n → (elsL (2 ^ w) n g k a).Nodup ∧ ∀ x, x ∈ elsL (2 ^ w) n g k a ↔ Rw (2 ^ w) n x ∧ Sp (2 ^ w) n (Gn g a []) (ent x)
  | 0, a, e => by
    have hM := two_pow_pos w
    refine ⟨by simp [elsL], fun x => ?_⟩
    have rz : Rw (2 ^ w) n (List.replicate n 0) := ⟨List.length_replicate, fun k hk => by rw [ent_rep]; exact ⟨Int.le_refl _, hM⟩⟩
    show x ∈ [List.replicate n 0] ↔ _
    rw [List.mem_singleton]
    constructor
    · rintro rfl
      exact ⟨rz, .zero fun k hk => by rw [ent_rep]; exact Int.dvd_zero _⟩
    · rintro ⟨hx, q⟩
      refine rw_ext hx rz fun k hk => ?_
      obtain ⟨b0, b1⟩ := hx.bd k hk
      rw [ent_rep]
      rw [Nat.add_zero] at e
      subst e
      exact red0 b0 b1 (gn_last I q k hk)
  | k + 1, a, e => by
    have hM := two_pow_pos w
    obtain ⟨i1, i2⟩ := els_ok I k (a + 1) (by omega)
    have han : a < n := by omega
    cases hg : g a with
    | none =>
      have e0 : elsL (2 ^ w) n g (k + 1) a = elsL (2 ^ w) n g k (a + 1) := by
        conv => lhs; unfold elsL
        rw [hg]
      rw [e0]
      exact ⟨i1, fun x => (i2 x).trans ⟨fun ⟨h1, h2⟩ => ⟨h1, h2.sub fun y q => q.lo (Nat.le_succ a)⟩, fun ⟨h1, h2⟩ => ⟨h1, h2.sub fun y q => gn_none hg q⟩⟩⟩
    | some p =>
      obtain ⟨_, hp, hpz, f, hf, hpa⟩ := I.piv a p hg
      have e0 : elsL (2 ^ w) n g (k + 1) a = (List.range ((2 : Int) ^ w / ent p a).toNat).flatMap fun (c : Nat) => (elsL (2 ^ w) n g k (a + 1)).map fun x => lessL x p (-(c : Int)) (2 ^ w) := by
        conv => lhs; unfold elsL
        rw [hg]
      rw [e0]
      have hp0 : 0 < ent p a := by rw [hpa]; exact two_pow_pos f
      have hdv : ent p a ∣ 2 ^ w := by rw [hpa]; exact pow_dv (Nat.le_of_lt hf)
      have hmul : ent p a * (2 ^ w / ent p a) = 2 ^ w := Int.mul_ediv_cancel' hdv
      have hq0 : 0 ≤ (2 : Int) ^ w / ent p a := Int.ediv_nonneg (by omega) (by omega)
      have z0 : ∀ y, y ∈ elsL (2 ^ w) n g k (a + 1) → ent y a = 0 := fun y hy => by
        obtain ⟨h1, h2⟩ := (i2 y).mp hy
        obtain ⟨b0, b1⟩ := h1.bd a han
        exact red0 b0 b1 (gn_at0 I (Nat.lt_succ_self a) han h2)
      have ea : ∀ y c, y ∈ elsL (2 ^ w) n g k (a + 1) → c < ((2 : Int) ^ w / ent p a).toNat → ent (lessL y p (-(c : Int)) (2 ^ w)) a = ent p a * (c : Int) := fun y c hy hc => by
        rw [less_ent ((i2 y).mp hy).1 hp han, z0 y hy, Int.mul_neg, Int.sub_neg, Int.zero_add]
        refine Int.emod_eq_of_lt (Int.mul_nonneg (by omega) (by omega)) ?_
        rw [← hmul]
        exact Int.mul_lt_mul_of_pos_left (by omega) hp0
      refine ⟨?_, fun x => ?_⟩
      · show List.Pairwise _ _
        rw [List.pairwise_flatMap]
        refine ⟨fun c hc => ?_, ?_⟩
        · rw [List.pairwise_map]
          refine List.Pairwise.imp_of_mem (fun {x y} hx hy hn hxy => hn ?_) i1
          have hx1 := ((i2 x).mp hx).1
          have hy1 := ((i2 y).mp hy).1
          refine rw_ext hx1 hy1 fun j hj => ?_
          have h1 := congrArg (fun l => ent l j) hxy
          rw [less_ent hx1 hp hj, less_ent hy1 hp hj] at h1
          obtain ⟨x0, x1⟩ := hx1.bd j hj
          obtain ⟨y0, y1⟩ := hy1.bd j hj
          refine red_eq x0 x1 y0 y1 ?_
          exact dv_eq (dv_sub (emod_dv (ent y j - ent p j * -(c : Int)) (2 ^ w)) (emod_dv (ent x j - ent p j * -(c : Int)) (2 ^ w))) (by omega)
        · refine List.Pairwise.imp_of_mem (R := (· < ·)) (fun {c d} hc hd hcd => ?_) List.pairwise_lt_range
          intro x hx y hy hxy
          obtain ⟨x', hx', rfl⟩ := List.mem_map.mp hx
          obtain ⟨y', hy', rfl⟩ := List.mem_map.mp hy
          have h1 := congrArg (fun l => ent l a) hxy
          rw [ea x' c hx' (List.mem_range.mp hc), ea y' d hy' (List.mem_range.mp hd)] at h1
          have := Int.eq_of_mul_eq_mul_left (Int.ne_of_gt hp0) h1
          omega
      · rw [List.mem_flatMap]
        constructor
        · rintro ⟨c, hc, hx⟩
          obtain ⟨y, hy, rfl⟩ := List.mem_map.mp hx
          obtain ⟨h1, h2⟩ := (i2 y).mp hy
          refine ⟨rw_less hM h1.len hp.len, ((h2.sub fun z q => q.lo (Nat.le_succ a)).comb (c : Int) (.gen (.inl ⟨a, Nat.le_refl _, hg⟩))).congr fun j hj => ?_⟩
          rw [less_ent h1 hp hj, Int.mul_neg, Int.sub_neg, Int.mul_comm]
          exact emod_dv _ _
        · rintro ⟨hx, q⟩
          obtain ⟨c, hc⟩ := first_dv I hg q
          obtain ⟨x0, x1⟩ := hx.bd a han
          have c0 : 0 ≤ c := by
            rcases Int.lt_or_le c 0 with z | z
            · have := Int.mul_neg_of_pos_of_neg hp0 z
              omega
            · exact z
          have c1 : c < 2 ^ w / ent p a := by
            refine Int.lt_of_mul_lt_mul_left (a := ent p a) ?_ (by omega)
            rw [hmul, ← hc]
            exact x1
          have hy : Rw (2 ^ w) n (lessL x p c (2 ^ w)) := rw_less hM hx.len hp.len
          refine ⟨c.toNat, List.mem_range.mpr (by omega), List.mem_map.mpr ⟨lessL x p c (2 ^ w), (i2 _).mpr ⟨hy, ?_⟩, ?_⟩⟩
          · refine howell1 I han ((q.comb (-c) (.gen (.inl ⟨a, Nat.le_refl _, hg⟩))).congr fun j hj => ?_) ?_
            · rw [less_ent hx hp hj, Int.neg_mul, ← Int.sub_eq_add_neg, Int.mul_comm c]
              exact emod_dv _ _
            · rw [less_ent hx hp han, ← hc, Int.sub_self]
              exact ⟨0, by simp⟩
          · refine rw_ext (rw_less hM hy.len hp.len) hx fun j hj => ?_
            obtain ⟨y0, y1⟩ := hx.bd j hj
            rw [less_ent hy hp hj, less_ent hx hp hj, Int.toNat_of_nonneg c0, Int.mul_neg, Int.sub_neg]
            refine red_eq (Int.emod_nonneg _ (by omega)) (Int.emod_lt_of_pos _ hM) y0 y1 ?_
            have h1 := emod_dv ((ent x j - ent p j * c) % 2 ^ w + ent p j * c) (2 ^ w)
            have h2 := emod_dv (ent x j - ent p j * c) (2 ^ w)
            exact dv_eq (dv_add h1 h2) (by omega)
/-- as many as the product tells -/
theorem els_count (I : PInv w n g []) {E : List (List Int)} (hd : E.Nodup) (hm : ∀ x, x ∈ E ↔ Rw (2 ^ w) n x ∧ Sp (2 ^ w) n (Gn g 0 []) (ent x)) : E.length = cntG (2 ^ w) g n 0 := by
  obtain ⟨h1, h2⟩ := els_ok I n 0 (Nat.zero_add n)
  rw [← els_len (2 ^ w) n g n 0]
  exact ((List.perm_ext_iff_of_nodup hd h1).mpr fun x => (hm x).trans (h2 x).symm).length_eq
end
theorem cnt_upd {M : Int} {g g' : Nat → Option (List Int)} {a : Nat} {p : List Int} (h : ∀ b, b ≠ a → g' b = g b) (hg : g a = none) (hg' : g' a = some p) : ∀ k lo, (lo ≤ a → a < lo + k → cntG M g' k lo = (M / ent p a).toNat * cntG M g k lo) ∧ (a < lo → cntG M g' k lo = cntG M g k lo)
  | 0, lo => ⟨fun h1 h2 => by omega, fun _ => rfl⟩
  | k + 1, lo => by
    obtain ⟨i1, i2⟩ := cnt_upd h hg hg' k (lo + 1)
    refine ⟨fun h1 h2 => ?_, fun h1 => ?_⟩
    · unfold cntG
      by_cases hl : lo = a
      · subst hl
        rw [hg, hg', i2 (Nat.lt_succ_self lo)]
        dsimp only
        rw [Nat.one_mul]
      · rw [h lo hl, i1 (by omega) (by omega), Nat.mul_left_comm]
    · unfold cntG
      rw [h lo (by omega), i2 (by omega)]
def cntP (M : Int) : Pv → Nat
  | [] => 1
  | (a, p) :: P => (M / ent p a).toNat * cntP M P
theorem cnt_one (M : Int) : ∀ k lo, cntG M (getP []) k lo = 1
  | 0, _ => rfl
  | k + 1, lo => by
    unfold cntG
    rw [cnt_one M k (lo + 1)]
    rfl
theorem cntP_ok {M : Int} {n : Nat} : ∀ {P : Pv}, (P.map (·.1)).Nodup → (∀ a ∈ P.map (·.1), a < n) → cntP M P = cntG M (getP P) n 0
  | [], _, _ => (cnt_one M n 0).symm
  | (a, p) :: P, hd, hl => by
    rw [List.map_cons, List.nodup_cons] at hd
    have hg : getP P a = none := by
      cases h : getP P a with
      | none => rfl
      | some q =>
        exfalso
        apply hd.1
        clear hd hl
        induction P with
        | nil => cases h
        | cons r P ih =>
          obtain ⟨b, s⟩ := r
          unfold getP at h
          by_cases hb : b = a
          · rw [hb]; exact List.mem_cons_self ..
          · rw [if_neg hb] at h
            exact List.mem_cons_of_mem _ (ih h)
    have hg' : getP ((a, p) :: P) a = some p := if_pos rfl
    have := (cnt_upd (M := M) (g := getP P) (g' := getP ((a, p) :: P)) (fun b hb => if_neg (fun z => hb z.symm)) hg hg' n 0).1 (Nat.zero_le _) (by rw [Nat.zero_add]; exact hl a (List.mem_cons_self ..))
    rw [this, ← cntP_ok hd.2 fun b hb => hl b (List.mem_cons_of_mem _ hb)]
    rfl
end Md

set_option Elab.async false
set_option linter.all false
set_option maxRecDepth 100000
set_option autoImplicit false
set_option maxHeartbeats 4000000
/-! printed by gen.py -/
namespace G11
open PySem PySem.Spec PyProof.Rows L2 Dm
abbrev PG : Program := PySem.Challenge.pw_leastattr_k11_modules_in_steps
def top (i : Nat) : Stmt := PG.main.body.getD i (.Pass ⟨0, 0, 0, 0⟩)
def clsBody : Stmt → List Stmt
  | .ClassDef (body := b) .. => b
  | _ => []
def mth (i j : Nat) : Stmt := (clsBody (top i)).getD j (.Pass ⟨0, 0, 0, 0⟩)
def clNames : List Str := ["Stair", "NoRows"]
def cl (K : PySem.W.Frag) : Cl := fun n => He.ga K (clNames.getD n "law")
abbrev cMn : EM := cM .non
abbrev badS : SM := fun _ _ => .bad

theorem b_ValueError : bootBuiltins "ValueError" = some (.type "ValueError") := by decide +kernel
theorem b_isinstance : bootBuiltins "isinstance" = some (.builtin "isinstance") := by decide +kernel
theorem b_len : bootBuiltins "len" = some (.builtin "len") := by decide +kernel
theorem b_int : bootBuiltins "int" = some (.type "int") := by decide +kernel
theorem b_bool : bootBuiltins "bool" = some (.type "bool") := by decide +kernel
theorem b_str : bootBuiltins "str" = some (.type "str") := by decide +kernel
theorem b_tuple : bootBuiltins "tuple" = some (.type "tuple") := by decide +kernel
theorem b_list : bootBuiltins "list" = some (.type "list") := by decide +kernel
theorem b_dict : bootBuiltins "dict" = some (.type "dict") := by decide +kernel
theorem b_all : bootBuiltins "all" = some (.builtin "all") := by decide +kernel
theorem b_any : bootBuiltins "any" = some (.builtin "any") := by decide +kernel
theorem b_sorted : bootBuiltins "sorted" = some (.builtin "sorted") := by decide +kernel
theorem b_sum : bootBuiltins "sum" = some (.builtin "sum") := by decide +kernel
theorem b_abs : bootBuiltins "abs" = some (.builtin "abs") := by decide +kernel
/-! ### _law_draw -/
abbrev s__law_draw : Stmt := top 21
abbrev N__law_draw : List Str := ["_law_source_here", "_law_many", "_law_digit", "_law_number_here"]
abbrev N__law_draw_ps : List Str := ["_law_source_here", "_law_many"]
def b__law_draw : SM :=
  (seqS (ifS (tv (bin2 gtF (bin2 ixF (varM 0) (cM (.int 0))) (cM (.int 0))))
  (seqS (setS 2 (bin2 modF (cB intF (consA (bin2 ixF (varM 0) (cM (.int 0))) nilA)) (varM 1)))
  (seqS (setR (varM 0) (cM (.int 0)) (bin2 fdivF (bin2 ixF (varM 0) (cM (.int 0))) (varM 1)))
  (retS (varM 2))))
  nilS)
  (seqS (setR (varM 0) (cM (.int 2)) (bin2 addF (bin2 ixF (varM 0) (cM (.int 2))) (cM (.int 1))))
  (seqS (setS 3 (bin2 modF (cB intF (consA (bin2 mulF (bin2 addF (bin2 addF (bin2 ixF (varM 0) (cM (.int 1))) (bin2 mulF (cM (.int 104729)) (bin2 ixF (varM 0) (cM (.int 2))))) (cM (.int 1))) (cM (.int 48271))) nilA)) (cM (.int 2147483647))))
  (seqS (setS 3 (bin2 modF (cB intF (consA (bin2 mulF (varM 3) (bin2 addF (bin2 fdivF (varM 3) (cM (.int 1009))) (cM (.int 69621)))) nilA)) (cM (.int 2147483647))))
  (retS (bin2 modF (cB intF (consA (bin2 modF (cB intF (consA (bin2 mulF (varM 3) (bin2 addF (bin2 fdivF (varM 3) (cM (.int 2003))) (cM (.int 40692)))) nilA)) (cM (.int 2147483399))) nilA)) (varM 1)))))))
def m__law_draw : List Vl → Sto → Res Vl := runM N__law_draw.length b__law_draw
def d__law_draw : He.DefD := ⟨("_law_draw", none), "_law_draw", "_law_draw", defArgs s__law_draw, defBody s__law_draw, defScope s__law_draw, [], []⟩
theorem sc__law_draw : FnScope N__law_draw N__law_draw_ps (defScope s__law_draw) := ⟨rfl, rfl, rfl, by decide +kernel, rfl, by decide +kernel, by decide +kernel⟩
/-! ### _law_pick -/
abbrev s__law_pick : Stmt := top 22
abbrev N__law_pick : List Str := ["_law_source_here", "_law_items"]
abbrev N__law_pick_ps : List Str := ["_law_source_here", "_law_items"]
def b__law_pick : SM :=
  (retS (bin2 ixF (varM 1) (callM m__law_draw (consA (varM 0) (consA (cB lenF (consA (varM 1) nilA)) nilA)))))
def m__law_pick : List Vl → Sto → Res Vl := runM N__law_pick.length b__law_pick
def d__law_pick : He.DefD := ⟨("_law_pick", none), "_law_pick", "_law_pick", defArgs s__law_pick, defBody s__law_pick, defScope s__law_pick, [], []⟩
theorem sc__law_pick : FnScope N__law_pick N__law_pick_ps (defScope s__law_pick) := ⟨rfl, rfl, rfl, by decide +kernel, rfl, by decide +kernel, by decide +kernel⟩
/-! ### _law_number -/
abbrev s__law_number : Stmt := top 23
abbrev N__law_number : List Str := ["_law_source_here", "_law_width", "_law_number_here"]
abbrev N__law_number_ps : List Str := ["_law_source_here", "_law_width"]
def b__law_number : SM :=
  (seqS (setS 2 (bin2 shlF (callM m__law_draw (consA (varM 0) (consA (bin2 shlF (cM (.int 1)) (varM 1)) nilA))) (callM m__law_draw (consA (varM 0) (consA (bin2 addF (varM 1) (cM (.int 1))) nilA)))))
  (retS (bin2 subF (varM 2) (bin2 mulF (bin2 shlF (cM (.int 1)) (varM 1)) (callM m__law_pick (consA (varM 0) (consA (lstM (consA (cM (.int 0)) (consA (cM (.int 0)) (consA (cM (.int 0)) (consA (cM (.int 1)) (consA (bin2 powF (cM (.int 3)) (cM (.int 50))) nilA)))))) nilA)))))))
def m__law_number : List Vl → Sto → Res Vl := runM N__law_number.length b__law_number
def d__law_number : He.DefD := ⟨("_law_number", none), "_law_number", "_law_number", defArgs s__law_number, defBody s__law_number, defScope s__law_number, [], []⟩
theorem sc__law_number : FnScope N__law_number N__law_number_ps (defScope s__law_number) := ⟨rfl, rfl, rfl, by decide +kernel, rfl, by decide +kernel, by decide +kernel⟩
/-! ### _law_rows -/
abbrev s__law_rows : Stmt := top 24
abbrev N__law_rows : List Str := ["_law_source_here", "_law_width", "_law_size", "_law_most", "_law_rows_here", "_law_turn", "_law_row", "_law_at"]
abbrev N__law_rows_ps : List Str := ["_law_source_here", "_law_width", "_law_size", "_law_most"]
def b__law_rows : SM :=
  (seqS (setS 4 (compM (rngI (consA (callM m__law_draw (consA (varM 0) (consA (bin2 addF (varM 3) (cM (.int 1))) nilA))) nilA)) [5] (tfN 5) yesT (compM (rngI (consA (varM 2) nilA)) [7] (tfN 7) yesT (callM m__law_number (consA (varM 0) (consA (varM 1) nilA))))))
  (retS (compM (seqI (varM 4)) [6] (tfN 6) yesT (callM m__law_pick (consA (varM 0) (consA (lstM (consA (cB listF (consA (varM 6) nilA)) (consA (cB tupF (consA (varM 6) nilA)) nilA))) nilA))))))
def m__law_rows : List Vl → Sto → Res Vl := runM N__law_rows.length b__law_rows
def d__law_rows : He.DefD := ⟨("_law_rows", none), "_law_rows", "_law_rows", defArgs s__law_rows, defBody s__law_rows, defScope s__law_rows, [], []⟩
theorem sc__law_rows : FnScope N__law_rows N__law_rows_ps (defScope s__law_rows) := ⟨rfl, rfl, rfl, by decide +kernel, rfl, by decide +kernel, by decide +kernel⟩
/-! ### _law_small -/
abbrev s__law_small : Stmt := top 25
abbrev N__law_small : List Str := ["_law_source_here", "_law_some", "_law_width", "_law_size"]
abbrev N__law_small_ps : List Str := ["_law_source_here"]
def b__law_small : SM :=
  (seqS (setS 1 (lstM (consA (tupM (consA (cM (.int 1)) (consA (cM (.int 3)) nilA))) (consA (tupM (consA (cM (.int 1)) (consA (cM (.int 6)) nilA))) (consA (tupM (consA (cM (.int 2)) (consA (cM (.int 2)) nilA))) (consA (tupM (consA (cM (.int 2)) (consA (cM (.int 3)) nilA))) (consA (tupM (consA (cM (.int 3)) (consA (cM (.int 2)) nilA))) (consA (tupM (consA (cM (.int 6)) (consA (cM (.int 1)) nilA))) (consA (tupM (consA (cM (.int 5)) (consA (cM (.int 1)) nilA))) (consA (tupM (consA (cM (.int 3)) (consA (cM (.int 1)) nilA))) (consA (tupM (consA (cM (.int 2)) (consA (cM (.int 1)) nilA))) (consA (tupM (consA (cM (.int 1)) (consA (cM (.int 1)) nilA))) (consA (tupM (consA (cM (.int 1)) (consA (cM (.int 0)) nilA))) nilA)))))))))))))
  (seqS (unpS [2, 3] (callM m__law_pick (consA (varM 0) (consA (varM 1) nilA))))
  (retS (tupM (consA (varM 2) (consA (varM 3) (consA (callM m__law_rows (consA (varM 0) (consA (varM 2) (consA (varM 3) (consA (cM (.int 4)) nilA))))) nilA)))))))
def m__law_small : List Vl → Sto → Res Vl := runM N__law_small.length b__law_small
def d__law_small : He.DefD := ⟨("_law_small", none), "_law_small", "_law_small", defArgs s__law_small, defBody s__law_small, defScope s__law_small, [], []⟩
theorem sc__law_small : FnScope N__law_small N__law_small_ps (defScope s__law_small) := ⟨rfl, rfl, rfl, by decide +kernel, rfl, by decide +kernel, by decide +kernel⟩
/-! ### less -/
abbrev s_less : Stmt := top 14
abbrev N_less : List Str := ["row", "other", "number", "modulus", "one", "its"]
abbrev N_less_ps : List Str := ["row", "other", "number", "modulus"]
def b_less : SM :=
  (retS (cB tupF (consA (compM (zpI (consA (varM 0) (consA (varM 1) nilA))) [4, 5] (tfT (tfCons (tfN 4) (tfCons (tfN 5) tfNil))) yesT (bin2 modF (bin2 subF (varM 4) (bin2 mulF (varM 5) (varM 2))) (varM 3))) nilA)))
def m_less : List Vl → Sto → Res Vl := runM N_less.length b_less
def d_less : He.DefD := ⟨("less", none), "less", "less", defArgs s_less, defBody s_less, defScope s_less, [], []⟩
theorem sc_less : FnScope N_less N_less_ps (defScope s_less) := ⟨rfl, rfl, rfl, by decide +kernel, rfl, by decide +kernel, by decide +kernel⟩
/-! ### Stair.tidied -/
abbrev s_Stair_tidied : Stmt := mth 15 4
abbrev N_Stair_tidied : List Str := ["self", "found", "columns", "place", "at", "row", "column", "pivot"]
abbrev N_Stair_tidied_ps : List Str := ["self"]
def b_Stair_tidied : SM :=
  (seqS (parOV2 1 2 (lstM nilA) (cB sortDF (consA (fldM 0 "pivots" (varM 0)) nilA)))
  (seqS (forS (enI (consA (varM 2) nilA)) (tfT (tfCons (tfN 3) (tfCons (tfN 4) tfNil)))
  (seqS (setS 5 (bin2 ixF (fldM 0 "pivots" (varM 0)) (varM 4)))
  (seqS (forS (seqI (slM (varM 2) (oS (bin2 addF (varM 3) (cM (.int 1)))) oN)) (tfN 6)
  (seqS (setS 7 (bin2 ixF (fldM 0 "pivots" (varM 0)) (varM 6)))
  (setS 5 (callM m_less (consA (varM 5) (consA (varM 7) (consA (bin2 fdivF (bin2 ixF (varM 5) (varM 6)) (bin2 ixF (varM 7) (varM 6))) (consA (fldM 0 "modulus" (varM 0)) nilA))))))))
  (appO 1 (varM 5)))))
  (seqS (shrS 1) (retS (varM 1)))))
def m_Stair_tidied : List Vl → Sto → Res Vl := runM N_Stair_tidied.length b_Stair_tidied
def d_Stair_tidied : He.DefD := ⟨("Stair", some "tidied"), "tidied", "Stair.tidied", defArgs s_Stair_tidied, defBody s_Stair_tidied, defScope s_Stair_tidied, [], []⟩
theorem sc_Stair_tidied : FnScope N_Stair_tidied N_Stair_tidied_ps (defScope s_Stair_tidied) := ⟨rfl, rfl, rfl, by decide +kernel, rfl, by decide +kernel, by decide +kernel⟩
/-! ### Stair.__init__ -/
abbrev s_Stair___init__ : Stmt := mth 15 0
abbrev N_Stair___init__ : List Str := ["self", "width", "size"]
abbrev N_Stair___init___ps : List Str := ["self", "width", "size"]
def b_Stair___init__ : SM :=
  (seqS (sfS 0 "modulus" 0 (bin2 shlF (cM (.int 1)) (varM 1)))
  (seqS (sfS 0 "wide" 0 (varM 2))
  (sfS 0 "pivots" 0 (newR dNew))))
def m_Stair___init__ : Addr → List Vl → Sto → Res Vl := runI N_Stair___init__.length 0 b_Stair___init__
def d_Stair___init__ : He.DefD := ⟨("Stair", some "__init__"), "__init__", "Stair.__init__", defArgs s_Stair___init__, defBody s_Stair___init__, defScope s_Stair___init__, [], []⟩
theorem sc_Stair___init__ : FnScope N_Stair___init__ N_Stair___init___ps (defScope s_Stair___init__) := ⟨rfl, rfl, rfl, by decide +kernel, rfl, by decide +kernel, by decide +kernel⟩
/-! ### power_in -/
abbrev s_power_in : Stmt := top 11
abbrev N_power_in : List Str := ["number"]
abbrev N_power_in_ps : List Str := ["number"]
def b_power_in : SM :=
  (retS (bin2 andF (varM 0) (un1 negF (varM 0))))
def m_power_in : List Vl → Sto → Res Vl := runM N_power_in.length b_power_in
def d_power_in : He.DefD := ⟨("power_in", none), "power_in", "power_in", defArgs s_power_in, defBody s_power_in, defScope s_power_in, [], []⟩
theorem sc_power_in : FnScope N_power_in N_power_in_ps (defScope s_power_in) := ⟨rfl, rfl, rfl, by decide +kernel, rfl, by decide +kernel, by decide +kernel⟩
/-! ### times -/
abbrev s_times : Stmt := top 13
abbrev N_times : List Str := ["row", "number", "modulus", "one"]
abbrev N_times_ps : List Str := ["row", "number", "modulus"]
def b_times : SM :=
  (retS (cB tupF (consA (compM (seqI (varM 0)) [3] (tfN 3) yesT (bin2 modF (bin2 mulF (varM 3) (varM 1)) (varM 2))) nilA)))
def m_times : List Vl → Sto → Res Vl := runM N_times.length b_times
def d_times : He.DefD := ⟨("times", none), "times", "times", defArgs s_times, defBody s_times, defScope s_times, [], []⟩
theorem sc_times : FnScope N_times N_times_ps (defScope s_times) := ⟨rfl, rfl, rfl, by decide +kernel, rfl, by decide +kernel, by decide +kernel⟩
/-! ### inverse -/
abbrev s_inverse : Stmt := top 12
abbrev N_inverse : List Str := ["number", "modulus", "found", "turn"]
abbrev N_inverse_ps : List Str := ["number", "modulus"]
def b_inverse : SM :=
  (seqS (setS 2 (varM 0))
  (seqS (forS (rngI (consA (cM (.int 5)) nilA)) (tfN 3)
  (setS 2 (bin2 modF (bin2 mulF (varM 2) (bin2 subF (cM (.int 2)) (bin2 mulF (varM 0) (varM 2)))) (varM 1))))
  (retS (bin2 modF (varM 2) (varM 1)))))
def m_inverse : List Vl → Sto → Res Vl := runM N_inverse.length b_inverse
def d_inverse : He.DefD := ⟨("inverse", none), "inverse", "inverse", defArgs s_inverse, defBody s_inverse, defScope s_inverse, [], []⟩
theorem sc_inverse : FnScope N_inverse N_inverse_ps (defScope s_inverse) := ⟨rfl, rfl, rfl, by decide +kernel, rfl, by decide +kernel, by decide +kernel⟩
/-! ### Stair.passed -/
abbrev s_Stair_passed : Stmt := mth 15 2
abbrev N_Stair_passed : List Str := ["self", "row", "at", "waiting", "old", "power", "pivot", "rest"]
abbrev N_Stair_passed_ps : List Str := ["self", "row", "at", "waiting"]
def b_Stair_passed : SM :=
  (seqS (setS 4 (getM (fldM 0 "pivots" (varM 0)) (varM 2)))
  (seqS (ifS (andT (tv (bin2 notNF (varM 4) cMn)) (andT (tv (bin2 geF (bin2 ixF (varM 1) (varM 2)) (bin2 ixF (varM 4) (varM 2)))) (tv (bin2 eqF (bin2 modF (bin2 ixF (varM 1) (varM 2)) (bin2 ixF (varM 4) (varM 2))) (cM (.int 0))))))
  (retS (callM m_less (consA (varM 1) (consA (varM 4) (consA (bin2 fdivF (bin2 ixF (varM 1) (varM 2)) (bin2 ixF (varM 4) (varM 2))) (consA (fldM 0 "modulus" (varM 0)) nilA))))))
  nilS)
  (seqS (setS 5 (callM m_power_in (consA (bin2 ixF (varM 1) (varM 2)) nilA)))
  (seqS (setS 6 (callM m_times (consA (varM 1) (consA (callM m_inverse (consA (bin2 fdivF (bin2 ixF (varM 1) (varM 2)) (varM 5)) (consA (fldM 0 "modulus" (varM 0)) nilA))) (consA (fldM 0 "modulus" (varM 0)) nilA)))))
  (seqS (setDR (fldM 0 "pivots" (varM 0)) (varM 2) (varM 6))
  (seqS (setS 7 (callM m_times (consA (varM 6) (consA (bin2 fdivF (fldM 0 "modulus" (varM 0)) (varM 5)) (consA (fldM 0 "modulus" (varM 0)) nilA)))))
  (seqS (ifS (tv (bin2 isNF (varM 4) cMn))
  (retS (varM 7))
  nilS)
  (seqS (appR 3 (varM 7))
  (retS (callM m_less (consA (varM 4) (consA (varM 6) (consA (bin2 fdivF (bin2 ixF (varM 4) (varM 2)) (varM 5)) (consA (fldM 0 "modulus" (varM 0)) nilA))))))))))))))
def m_Stair_passed : List Vl → Sto → Res Vl := runM N_Stair_passed.length b_Stair_passed
def d_Stair_passed : He.DefD := ⟨("Stair", some "passed"), "passed", "Stair.passed", defArgs s_Stair_passed, defBody s_Stair_passed, defScope s_Stair_passed, [], []⟩
theorem sc_Stair_passed : FnScope N_Stair_passed N_Stair_passed_ps (defScope s_Stair_passed) := ⟨rfl, rfl, rfl, by decide +kernel, rfl, by decide +kernel, by decide +kernel⟩
/-! ### Stair.put -/
abbrev s_Stair_put : Stmt := mth 15 1
abbrev N_Stair_put : List Str := ["self", "row", "waiting", "at"]
abbrev N_Stair_put_ps : List Str := ["self", "row"]
def b_Stair_put : SM :=
  (seqS (newS 2 (lstM (consA (varM 1) nilA)))
  (whileS (tv (bin2 neNF (varM 2) (lstM nilA)))
  (seqS (setS 1 (popE 2))
  (forS (rngI (consA (fldM 0 "wide" (varM 0)) nilA)) (tfN 3)
  (ifS (tv (bin2 neF (bin2 ixF (varM 1) (varM 3)) (cM (.int 0))))
  (setS 1 (methM 0 "passed" m_Stair_passed (varM 0) (consA (varM 1) (consA (varM 3) (consA (varM 2) nilA)))))
  nilS))) 100000))
def m_Stair_put : List Vl → Sto → Res Vl := runM N_Stair_put.length b_Stair_put
def d_Stair_put : He.DefD := ⟨("Stair", some "put"), "put", "Stair.put", defArgs s_Stair_put, defBody s_Stair_put, defScope s_Stair_put, [], []⟩
theorem sc_Stair_put : FnScope N_Stair_put N_Stair_put_ps (defScope s_Stair_put) := ⟨rfl, rfl, rfl, by decide +kernel, rfl, by decide +kernel, by decide +kernel⟩
/-! ### stair_of -/
abbrev s_stair_of : Stmt := top 16
abbrev N_stair_of : List Str := ["width", "size", "rows", "found", "row"]
abbrev N_stair_of_ps : List Str := ["width", "size", "rows"]
def b_stair_of : SM :=
  (seqS (setS 3 (makeM m_Stair___init__ (consA (varM 0) (consA (varM 1) nilA))))
  (seqS (forS (seqI (varM 2)) (tfN 4)
  (exprS (methM 0 "put" m_Stair_put (varM 3) (consA (varM 4) nilA))))
  (retS (varM 3))))
def m_stair_of : List Vl → Sto → Res Vl := runM N_stair_of.length b_stair_of
def d_stair_of : He.DefD := ⟨("stair_of", none), "stair_of", "stair_of", defArgs s_stair_of, defBody s_stair_of, defScope s_stair_of, [], []⟩
theorem sc_stair_of : FnScope N_stair_of N_stair_of_ps (defScope s_stair_of) := ⟨rfl, rfl, rfl, by decide +kernel, rfl, by decide +kernel, by decide +kernel⟩
/-! ### is_int -/
abbrev s_is_int : Stmt := top 5
abbrev N_is_int : List Str := ["value"]
abbrev N_is_int_ps : List Str := ["value"]
def b_is_int : SM :=
  (retS (andV (isiM [.int] (varM 0)) (notV (isiM [.bool] (varM 0)))))
def m_is_int : List Vl → Sto → Res Vl := runM N_is_int.length b_is_int
def d_is_int : He.DefD := ⟨("is_int", none), "is_int", "is_int", defArgs s_is_int, defBody s_is_int, defScope s_is_int, [], []⟩
theorem sc_is_int : FnScope N_is_int N_is_int_ps (defScope s_is_int) := ⟨rfl, rfl, rfl, by decide +kernel, rfl, by decide +kernel, by decide +kernel⟩
/-! ### is_from -/
abbrev s_is_from : Stmt := top 6
abbrev N_is_from : List Str := ["value", "low", "high"]
abbrev N_is_from_ps : List Str := ["value", "low", "high"]
def b_is_from : SM :=
  (retS (andV (callM m_is_int (consA (varM 0) nilA)) (ch3 leF leF (varM 1) (varM 0) (varM 2))))
def m_is_from : List Vl → Sto → Res Vl := runM N_is_from.length b_is_from
def d_is_from : He.DefD := ⟨("is_from", none), "is_from", "is_from", defArgs s_is_from, defBody s_is_from, defScope s_is_from, [], []⟩
theorem sc_is_from : FnScope N_is_from N_is_from_ps (defScope s_is_from) := ⟨rfl, rfl, rfl, by decide +kernel, rfl, by decide +kernel, by decide +kernel⟩
/-! ### NoRows.__init__ -/
abbrev s_NoRows___init__ : Stmt := mth 2 0
abbrev N_NoRows___init__ : List Str := ["self", "part", "index"]
abbrev N_NoRows___init___ps : List Str := ["self", "part", "index"]
def d_NoRows___init__ : He.DefD := ⟨("NoRows", some "__init__"), "__init__", "NoRows.__init__", defArgs s_NoRows___init__, defBody s_NoRows___init__, defScope s_NoRows___init__, [], []⟩
theorem sc_NoRows___init__ : FnScope N_NoRows___init__ N_NoRows___init___ps (defScope s_NoRows___init__) := ⟨rfl, rfl, rfl, by decide +kernel, rfl, by decide +kernel, by decide +kernel⟩
/-! ### check_sizes -/
abbrev s_check_sizes : Stmt := top 8
abbrev N_check_sizes : List Str := ["width", "size"]
abbrev N_check_sizes_ps : List Str := ["width", "size"]
def b_check_sizes : SM :=
  (seqS (ifS (notT (tv (callM m_is_from (consA (varM 0) (consA (cM (.int 1)) (consA (cM (.int 64)) nilA))))))
  (raiS 1 ["index", "part"] (consA (cM (.str "width")) (consA (un1 negF (cM (.int 1))) nilA)))
  nilS)
  (ifS (orT (notT (tv (callM m_is_int (consA (varM 1) nilA)))) (tv (bin2 ltF (varM 1) (cM (.int 0)))))
  (raiS 1 ["index", "part"] (consA (cM (.str "size")) (consA (un1 negF (cM (.int 1))) nilA)))
  nilS))
def m_check_sizes : List Vl → Sto → Res Vl := runM N_check_sizes.length b_check_sizes
def d_check_sizes : He.DefD := ⟨("check_sizes", none), "check_sizes", "check_sizes", defArgs s_check_sizes, defBody s_check_sizes, defScope s_check_sizes, [], []⟩
theorem sc_check_sizes : FnScope N_check_sizes N_check_sizes_ps (defScope s_check_sizes) := ⟨rfl, rfl, rfl, by decide +kernel, rfl, by decide +kernel, by decide +kernel⟩
/-! ### are_many_ints -/
abbrev s_are_many_ints : Stmt := top 9
abbrev N_are_many_ints : List Str := ["row", "size", "number"]
abbrev N_are_many_ints_ps : List Str := ["row", "size"]
def b_are_many_ints : SM :=
  (retS (andV (isiM [.lst, .tup] (varM 0)) (andV (bin2 eqF (cB lenF (consA (varM 0) nilA)) (varM 1)) (cB allF (consA (compM (seqI (varM 0)) [2] (tfN 2) yesT (callM m_is_int (consA (varM 2) nilA))) nilA)))))
def m_are_many_ints : List Vl → Sto → Res Vl := runM N_are_many_ints.length b_are_many_ints
def d_are_many_ints : He.DefD := ⟨("are_many_ints", none), "are_many_ints", "are_many_ints", defArgs s_are_many_ints, defBody s_are_many_ints, defScope s_are_many_ints, [], []⟩
theorem sc_are_many_ints : FnScope N_are_many_ints N_are_many_ints_ps (defScope s_are_many_ints) := ⟨rfl, rfl, rfl, by decide +kernel, rfl, by decide +kernel, by decide +kernel⟩
/-! ### reduced_rows -/
abbrev s_reduced_rows : Stmt := top 10
abbrev N_reduced_rows : List Str := ["width", "size", "rows", "part", "index", "row", "number"]
abbrev N_reduced_rows_ps : List Str := ["width", "size", "rows", "part"]
def b_reduced_rows : SM :=
  (seqS (exprS (callM m_check_sizes (consA (varM 0) (consA (varM 1) nilA))))
  (seqS (ifS (notT (tv (isiM [.lst, .tup] (varM 2))))
  (raiS 1 ["index", "part"] (consA (varM 3) (consA (un1 negF (cM (.int 1))) nilA)))
  nilS)
  (seqS (forS (enI (consA (varM 2) nilA)) (tfT (tfCons (tfN 4) (tfCons (tfN 5) tfNil)))
  (ifS (notT (tv (callM m_are_many_ints (consA (varM 5) (consA (varM 1) nilA)))))
  (raiS 1 ["index", "part"] (consA (varM 3) (consA (varM 4) nilA)))
  nilS))
  (retS (compM (seqI (varM 2)) [5] (tfN 5) yesT (cB tupF (consA (compM (seqI (varM 5)) [6] (tfN 6) yesT (bin2 modF (cB intF (consA (varM 6) nilA)) (bin2 shlF (cM (.int 1)) (varM 0)))) nilA)))))))
def m_reduced_rows : List Vl → Sto → Res Vl := runM N_reduced_rows.length b_reduced_rows
def d_reduced_rows : He.DefD := ⟨("reduced_rows", none), "reduced_rows", "reduced_rows", defArgs s_reduced_rows, defBody s_reduced_rows, defScope s_reduced_rows, [], []⟩
theorem sc_reduced_rows : FnScope N_reduced_rows N_reduced_rows_ps (defScope s_reduced_rows) := ⟨rfl, rfl, rfl, by decide +kernel, rfl, by decide +kernel, by decide +kernel⟩
/-! ### echelon -/
abbrev s_echelon : Stmt := top 17
abbrev N_echelon : List Str := ["width", "size", "rows"]
abbrev N_echelon_ps : List Str := ["width", "size", "rows"]
def b_echelon : SM :=
  (retS (methM 0 "tidied" m_Stair_tidied (callM m_stair_of (consA (varM 0) (consA (varM 1) (consA (callM m_reduced_rows (consA (varM 0) (consA (varM 1) (consA (varM 2) (consA (cM (.str "rows")) nilA))))) nilA)))) nilA))
def m_echelon : List Vl → Sto → Res Vl := runM N_echelon.length b_echelon
def d_echelon : He.DefD := ⟨("echelon", none), "echelon", "echelon", defArgs s_echelon, defBody s_echelon, defScope s_echelon, [], []⟩
theorem sc_echelon : FnScope N_echelon N_echelon_ps (defScope s_echelon) := ⟨rfl, rfl, rfl, by decide +kernel, rfl, by decide +kernel, by decide +kernel⟩
/-! ### _law_elements -/
abbrev s__law_elements : Stmt := top 26
abbrev N__law_elements : List Str := ["_law_width", "_law_size", "_law_rows_here", "_law_found", "_law_row", "_law_factor", "_law_one", "_law_a", "_law_b"]
abbrev N__law_elements_ps : List Str := ["_law_width", "_law_size", "_law_rows_here"]
def b__law_elements : SM :=
  (seqS (ownS 3 (dt1 (bin2 mulTF (tupM (consA (cM (.int 0)) nilA)) (varM 1)) (cM (.bl true))))
  (seqS (forS (seqI (varM 2)) (tfN 4)
  (forS (rngI (consA (bin2 shlF (cM (.int 1)) (varM 0)) nilA)) (tfN 5)
  (forS (seqI (cB listTF (consA (varL 3) nilA))) (tfN 6)
  (setDT 3 (cB tupF (consA (compM (zpI (consA (varM 6) (consA (varM 4) nilA))) [7, 8] (tfT (tfCons (tfN 7) (tfCons (tfN 8) tfNil))) yesT (bin2 modF (cB intF (consA (bin2 addF (varM 7) (bin2 mulF (varM 5) (varM 8))) nilA)) (bin2 shlF (cM (.int 1)) (varM 0)))) nilA)) (cM (.bl true))))))
  (seqS (shrS 3) (retS (varM 3)))))
def m__law_elements : List Vl → Sto → Res Vl := runM N__law_elements.length b__law_elements
def d__law_elements : He.DefD := ⟨("_law_elements", none), "_law_elements", "_law_elements", defArgs s__law_elements, defBody s__law_elements, defScope s__law_elements, [], []⟩
theorem sc__law_elements : FnScope N__law_elements N__law_elements_ps (defScope s__law_elements) := ⟨rfl, rfl, rfl, by decide +kernel, rfl, by decide +kernel, by decide +kernel⟩
/-! ### _law_steps_right -/
abbrev s__law_steps_right : Stmt := top 27
abbrev N__law_steps_right : List Str := ["_law_width", "_law_size", "_law_told", "_law_last", "_law_index", "_law_row", "_law_spots", "_law_at", "_law_one", "_law_before"]
abbrev N__law_steps_right_ps : List Str := ["_law_width", "_law_size", "_law_told"]
def b__law_steps_right : SM :=
  (seqS (setS 3 (un1 negF (cM (.int 1))))
  (seqS (forS (enI (consA (varM 2) nilA)) (tfT (tfCons (tfN 4) (tfCons (tfN 5) tfNil)))
  (seqS (ifS (orT (notT (tv (isiM [.tup] (varM 5)))) (tv (bin2 neF (compM (seqI (varM 5)) [8] (tfN 8) (notT (tv (ch3 leF ltF (cM (.int 0)) (varM 8) (bin2 shlF (cM (.int 1)) (varM 0))))) (varM 8)) (lstM nilA))))
  (retS (cM (.bl false)))
  nilS)
  (seqS (setS 6 (compM (enI (consA (varM 5) nilA)) [7, 8] (tfT (tfCons (tfN 7) (tfCons (tfN 8) tfNil))) (tv (bin2 neF (varM 8) (cM (.int 0)))) (varM 7)))
  (seqS (ifS (orT (tv (bin2 eqF (varM 6) (lstM nilA))) (orT (tv (bin2 leF (bin2 ixF (varM 6) (cM (.int 0))) (varM 3))) (tv (bin2 notInF (bin2 ixF (varM 5) (bin2 ixF (varM 6) (cM (.int 0)))) (compM (rngI (consA (varM 0) nilA)) [7] (tfN 7) yesT (bin2 shlF (cM (.int 1)) (varM 7)))))))
  (retS (cM (.bl false)))
  nilS)
  (seqS (setS 3 (bin2 ixF (varM 6) (cM (.int 0))))
  (ifS (tv (bin2 neF (compM (seqI (slM (varM 2) oN (oS (varM 4)))) [9] (tfN 9) (tv (bin2 geF (bin2 ixF (varM 9) (varM 3)) (bin2 ixF (varM 5) (varM 3)))) (varM 9)) (lstM nilA)))
  (retS (cM (.bl false)))
  nilS))))))
  (retS (cM (.bl true)))))
def m__law_steps_right : List Vl → Sto → Res Vl := runM N__law_steps_right.length b__law_steps_right
def d__law_steps_right : He.DefD := ⟨("_law_steps_right", none), "_law_steps_right", "_law_steps_right", defArgs s__law_steps_right, defBody s__law_steps_right, defScope s__law_steps_right, [], []⟩
theorem sc__law_steps_right : FnScope N__law_steps_right N__law_steps_right_ps (defScope s__law_steps_right) := ⟨rfl, rfl, rfl, by decide +kernel, rfl, by decide +kernel, by decide +kernel⟩
/-! ### count -/
abbrev s_count : Stmt := top 18
abbrev N_count : List Str := ["width", "size", "rows", "found", "at", "pivot"]
abbrev N_count_ps : List Str := ["width", "size", "rows"]
def b_count : SM :=
  (seqS (setS 3 (cM (.int 1)))
  (seqS (forS (itemsI (popZ (fldM 0 "pivots" (callM m_stair_of (consA (varM 0) (consA (varM 1) (consA (callM m_reduced_rows (consA (varM 0) (consA (varM 1) (consA (varM 2) (consA (cM (.str "rows")) nilA))))) nilA))))))) (tfT (tfCons (tfN 4) (tfCons (tfN 5) tfNil)))
  (setS 3 (bin2 mulF (varM 3) (bin2 fdivF (bin2 shlF (cM (.int 1)) (varM 0)) (bin2 ixF (varM 5) (varM 4))))))
  (retS (varM 3))))
def m_count : List Vl → Sto → Res Vl := runM N_count.length b_count
def d_count : He.DefD := ⟨("count", none), "count", "count", defArgs s_count, defBody s_count, defScope s_count, [], []⟩
theorem sc_count : FnScope N_count N_count_ps (defScope s_count) := ⟨rfl, rfl, rfl, by decide +kernel, rfl, by decide +kernel, by decide +kernel⟩
/-! ### _law_right -/
abbrev s__law_right : Stmt := top 28
abbrev N__law_right : List Str := ["_law_source_here", "_law_width", "_law_size", "_law_rows_here", "_law_told", "_law_known", "_law_at", "_law_due", "_law_some", "_law_others", "_law_one", "_law_turn", "_law_row"]
abbrev N__law_right_ps : List Str := ["_law_source_here"]
def b__law_right : SM :=
  (seqS (unpS [1, 2, 3] (callM m__law_small (consA (varM 0) nilA)))
  (seqS (parOV2 4 5 (popN (callM m_echelon (consA (varM 1) (consA (varM 2) (consA (varM 3) nilA))))) (popZ (callM m__law_elements (consA (varM 1) (consA (varM 2) (consA (varM 3) nilA))))))
  (seqS (ifS (orT (notT (tv (isiM [.lst] (varL 4)))) (notT (tv (callL m__law_steps_right (consA (varM 1) (consA (varM 2) (consA (varL 4) nilA)))))))
  (retS (cM (.bl false)))
  nilS)
  (seqS (forS (rngI (consA (bin2 addF (varM 2) (cM (.int 1))) nilA)) (tfN 6)
  (seqS (setS 7 (compM (keysI (varM 5)) [10] (tfN 10) (notT (tv (cB anyIF (consA (slM (varM 10) oN (oS (varM 6))) nilA)))) (varM 10)))
  (seqS (setS 8 (popZ (callM m__law_elements (consA (varM 1) (consA (varM 2) (consA (compM (seqI (varL 4)) [12] (tfN 12) (notT (tv (cB anyIF (consA (slM (varM 12) oN (oS (varM 6))) nilA)))) (varM 12)) nilA))))))
  (ifS (tv (bin2 neF (cB sortTF (consA (varM 8) nilA)) (cB sortLF (consA (varM 7) nilA))))
  (retS (cM (.bl false)))
  nilS))))
  (seqS (ifS (orT (tv (bin2 neF (popM (callM m_count (consA (varM 1) (consA (varM 2) (consA (varM 3) nilA))))) (cB lenTF (consA (varM 5) nilA)))) (tv (bin2 neF (popM (callL m_count (consA (varM 1) (consA (varM 2) (consA (varL 4) nilA))))) (cB lenTF (consA (varM 5) nilA)))))
  (retS (cM (.bl false)))
  nilS)
  (seqS (setS 9 (bin2 catF (compM (rngI (consA (cM (.int 3)) nilA)) [11] (tfN 11) yesT (callM m__law_pick (consA (varM 0) (consA (cB sortTF (consA (varM 5) nilA)) nilA)))) (revN (cB listF (consA (varM 3) nilA)))))
  (seqS (ifS (orT (tv (bin2 neF (popM (callM m_echelon (consA (varM 1) (consA (varM 2) (consA (varM 9) nilA))))) (varL 4))) (tv (bin2 neF (popM (callL m_echelon (consA (varM 1) (consA (varM 2) (consA (varL 4) nilA))))) (varL 4))))
  (retS (cM (.bl false)))
  nilS)
  (seqS (appO 4 cMn)
  (retS (bin2 eqF (popM (callM m_echelon (consA (varM 1) (consA (varM 2) (consA (cB tupF (consA (varM 3) nilA)) nilA))))) (slM (varL 4) oN (oS (un1 negF (cM (.int 1)))))))))))))))
def m__law_right : List Vl → Sto → Res Vl := runM N__law_right.length b__law_right
def d__law_right : He.DefD := ⟨("_law_right", none), "_law_right", "_law_right", defArgs s__law_right, defBody s__law_right, defScope s__law_right, [], []⟩
theorem sc__law_right : FnScope N__law_right N__law_right_ps (defScope s__law_right) := ⟨rfl, rfl, rfl, by decide +kernel, rfl, by decide +kernel, by decide +kernel⟩
/-! ### _law_source -/
abbrev s__law_source : Stmt := top 20
abbrev N__law_source : List Str := ["_law_cell"]
abbrev N__law_source_ps : List Str := ["_law_cell"]
def b__law_source : SM :=
  (retW (lstM (consA (bin2 mulF (cB absF (consA (varM 0) nilA)) (cB intF (consA (bin2 geF (cB absF (consA (varM 0) nilA)) (bin2 powF (cM (.int 10)) (cM (.int 18)))) nilA))) (consA (bin2 modF (cB intF (consA (cB absF (consA (varM 0) nilA)) nilA)) (cM (.int 2147483647))) (consA (cM (.int 0)) nilA)))))
def m__law_source : List Vl → Sto → Res Vl := runM N__law_source.length b__law_source
def d__law_source : He.DefD := ⟨("_law_source", none), "_law_source", "_law_source", defArgs s__law_source, defBody s__law_source, defScope s__law_source, [], []⟩
theorem sc__law_source : FnScope N__law_source N__law_source_ps (defScope s__law_source) := ⟨rfl, rfl, rfl, by decide +kernel, rfl, by decide +kernel, by decide +kernel⟩
/-! ### law -/
abbrev s_law : Stmt := top 29
abbrev N_law : List Str := ["_law_script", "_law_k", "_law_cell"]
abbrev N_law_ps : List Str := ["_law_script"]
def b_law : SM :=
  (seqS (forS (enI (consA (slM (bin2 catSF (varM 0) (lstM (consA (cM (.int 0)) nilA))) oN (oS (cM (.int 6)))) nilA)) (tfT (tfCons (tfN 1) (tfCons (tfN 2) tfNil)))
  (ifS (notT (tv (popM (callM m__law_right (consA (callM m__law_source (consA (bin2 addF (varM 2) (bin2 mulF (bin2 mulF (cM (.int 7919)) (varM 1)) (cB intF (consA (bin2 ltF (cB absF (consA (varM 2) nilA)) (bin2 powF (cM (.int 10)) (cM (.int 18)))) nilA)))) nilA)) nilA)))))
  (retS (cM (.bl false)))
  nilS))
  (retS (cM (.bl true))))
def m_law : List Vl → Sto → Res Vl := runM N_law.length b_law
def d_law : He.DefD := ⟨("law", none), "law", "law", defArgs s_law, defBody s_law, defScope s_law, [], []⟩
theorem sc_law : FnScope N_law N_law_ps (defScope s_law) := ⟨rfl, rfl, rfl, by decide +kernel, rfl, by decide +kernel, by decide +kernel⟩
def fa : List He.Fa := [.free "enumerate",
  .free "int",
  .glo "_law_draw",
  .free "len",
  .glo "_law_pick",
  .free "range",
  .glo "_law_number",
  .free "tuple",
  .free "list",
  .glo "_law_rows",
  .glo "_law_small",
  .free "sorted",
  .cls "Stair",
  .noat "Stair" "pivots",
  .free "zip",
  .glo "less",
  .noat "Stair" "modulus",
  .meth "Stair" "tidied",
  .noat "Stair" "wide",
  .mkr "Stair",
  .glo "Stair",
  .glo "power_in",
  .glo "times",
  .glo "inverse",
  .meth "Stair" "passed",
  .meth "Stair" "put",
  .glo "stair_of",
  .free "isinstance",
  .free "bool",
  .glo "is_int",
  .glo "is_from",
  .int "MAX_WIDTH" (64),
  .glo "AttrError",
  .glo "NoRows",
  .glo "check_sizes",
  .free "all",
  .glo "are_many_ints",
  .glo "reduced_rows",
  .glo "echelon",
  .glo "_law_elements",
  .glo "_law_steps_right",
  .free "any",
  .glo "count",
  .glo "_law_right",
  .free "abs",
  .glo "_law_source",
  .glo "law"]
def fn : List He.DefD := [d__law_draw, d__law_pick, d__law_number, d__law_rows, d__law_small, d_less, d_Stair_tidied, d_Stair___init__, d_power_in, d_times, d_inverse, d_Stair_passed, d_Stair_put, d_stair_of, d_is_int, d_is_from, d_NoRows___init__, d_check_sizes, d_are_many_ints, d_reduced_rows, d_echelon, d__law_elements, d__law_steps_right, d_count, d__law_right, d__law_source, d_law]
/-- a class with its own == and no != -/
def fx_eq (C : Str) : Fx := fun K => He.eqO (PySem.W.findIn K (.ref (He.ga K C)) "__eq__") (some (some (.ref (He.fAd K (C, some "__eq__"))))) && (PySem.W.isFn K (.ref (He.fAd K (C, some "__eq__"))) &&
  (He.eqO (PySem.W.findIn K (.ref (He.ga K C)) "__ne__") (some (some (.builtin "object.__ne__"))) && (decide (PySem.W.subIn K (.ref (He.ga K C)) (.type "object") = some true) &&
    ([Ty.non, .bool, .int, .str, .tup, .lst, .dic].all fun t => PySem.W.notFirst K (He.ga K C) (.type t.nm)))))
theorem fx_eq_ok {C : Str} {K : PySem.W.Frag} (h : fx_eq C K = true) : EqC K (He.ga K C) (He.fAd K (C, some "__eq__")) := by
  obtain ⟨h1, h⟩ := He.ba h
  obtain ⟨h2, h⟩ := He.ba h
  obtain ⟨h3, h⟩ := He.ba h
  obtain ⟨h4, h5⟩ := He.ba h
  refine ⟨He.eqO_ok h1, h2, He.eqO_ok h3, of_decide_eq_true h4, fun t => List.all_eq_true.mp h5 t ?_⟩
  cases t <;> decide
/-- isinstance(.., C) -/
def fx_is (C : Str) : Fx := fun K => He.eqO (PySem.W.findIn K (.ref (He.ga K C)) "__class__") (some (some (.builtin "object.__class__"))) && (He.eqO (PySem.W.specialIn K (.builtin "object.__class__") "__get__") (some (some (.builtin "getset_descriptor.__get__"))) &&
  (decide (PySem.W.takesIn K (.builtin "object.__class__") = some true) && (decide (PySem.W.mroIn K (He.ga K C) (.type "object") = some true) && (decide (PySem.W.kitOne K (.ref (He.ga K C)) (.ref (He.ga K C)) = some true) &&
    ([Ty.non, .bool, .int, .str, .tup, .lst, .dic].all fun t => decide (PySem.W.kitOne K (.type t.nm) (.ref (He.ga K C)) = some false))))))
theorem fx_is_ok {C : Str} {K : PySem.W.Frag} (h : fx_is C K = true) (hc : Cls K (He.ga K C)) : IsC K (He.ga K C) ∧ PySem.W.kitOne K (.ref (He.ga K C)) (.ref (He.ga K C)) = some true ∧ ∀ t : Ty, PySem.W.kitOne K (.type t.nm) (.ref (He.ga K C)) = some false := by
  obtain ⟨h1, h⟩ := He.ba h
  obtain ⟨h2, h⟩ := He.ba h
  obtain ⟨h3, h⟩ := He.ba h
  obtain ⟨h4, h⟩ := He.ba h
  obtain ⟨h5, h6⟩ := He.ba h
  refine ⟨⟨hc, He.eqO_ok h1, He.eqO_ok h2, of_decide_eq_true h3, of_decide_eq_true h4⟩, of_decide_eq_true h5, fun t => of_decide_eq_true (List.all_eq_true.mp h6 t ?_)⟩
  cases t <;> decide

def fx : List Fx := [fx_oex "NoRows", fx_no "NoRows" "part", fx_no "NoRows" "index", fx_aei "AttrError"]
theorem ok__law_draw {P : Program} {w : World} {K : PySem.W.Frag} {mg : Str → Option Value} {base h : Heap} (X : K.In h) (G : h.Ns mainGlobals mg) (c : SaysX fx fa fn K) :
    ∃ fd, FunD K "_law_draw" "_law_draw" (defArgs s__law_draw) (defBody s__law_draw) (defScope s__law_draw) [] [] (He.fAd K ("_law_draw", none)) fd ∧ FnOk P w K mg base (L2.CX P w) 1 (He.fAd K ("_law_draw", none)) fd N__law_draw_ps (spM K (cl K) 2 m__law_draw) := by
  obtain ⟨fd, F⟩ := c.d.def_ 0 (d := d__law_draw) rfl
  have g_int : mg "int" = none := He.free_ok X G (c.d.fact 1 (f := .free "int") rfl)
  exact ⟨fd, F, fn_ok F sc__law_draw (b := b__law_draw) <| fun cdv A outer s H E hr => by
    have hu := L2.hu_of hr
    exact (ds_cons (ds_if (dt_cmp op_gt (s_cmp _) (sl (de_ix (o_ix hu) s_ix (sl (de_var (pv 0))) (sl de_int) (fun _ _ => rfl))) (sl de_int) (nomark _))
  (ds_cons (ds_set (ps_set sc__law_draw.nd rfl (Or.inl rfl) (de_op op_mod s_mod (sl (de_callTy call_int1 s_int rfl g_int b_int (la_cons (sl (de_ix (o_ix hu) s_ix (sl (de_var (pv 0))) (sl de_int) (fun _ _ => rfl))) la_nil))) (sl (de_var (pv 1))))) (fun _ _ _ z => z))
  (ds_cons (ds_setR (ps_asg (de_op op_fdivW s_fdiv (sl (de_ix (o_ix hu) s_ix (sl (de_var (pv 0))) (sl de_int) (fun _ _ => rfl))) (sl (de_var (pv 1)))) (pg_sub (de_var (pv 0)) de_int set_list)) (fun _ _ _ z => z) (fun _ _ _ z => z) (fun _ _ _ z => z))
  (ds_one (ds_ret (de_var (pv 2))))))
  ds_nil)
  (ds_cons (ds_setR (ps_asg (de_op o_add s_add (sl (de_ix (o_ix hu) s_ix (sl (de_var (pv 0))) (sl de_int) (fun _ _ => rfl))) (sl de_int)) (pg_sub (de_var (pv 0)) de_int set_list)) (fun _ _ _ z => z) (fun _ _ _ z => z) (fun _ _ _ z => z))
  (ds_cons (ds_set (ps_set sc__law_draw.nd rfl (Or.inl rfl) (de_op op_mod s_mod (sl (de_callTy call_int1 s_int rfl g_int b_int (la_cons (sl (de_op o_mul s_mul (sl (de_op o_add s_add (sl (de_op o_add s_add (sl (de_ix (o_ix hu) s_ix (sl (de_var (pv 0))) (sl de_int) (fun _ _ => rfl))) (sl (de_op o_mul s_mul (sl de_int) (sl (de_ix (o_ix hu) s_ix (sl (de_var (pv 0))) (sl de_int) (fun _ _ => rfl))))))) (sl de_int))) (sl de_int))) la_nil))) (sl de_int))) (fun _ _ _ z => z))
  (ds_cons (ds_set (ps_set sc__law_draw.nd rfl (Or.inl rfl) (de_op op_mod s_mod (sl (de_callTy call_int1 s_int rfl g_int b_int (la_cons (sl (de_op o_mul s_mul (sl (de_var (pv 3))) (sl (de_op o_add s_add (sl (de_op op_fdivW s_fdiv (sl (de_var (pv 3))) (sl de_int))) (sl de_int))))) la_nil))) (sl de_int))) (fun _ _ _ z => z))
  (ds_one (ds_ret (de_op op_mod s_mod (sl (de_callTy call_int1 s_int rfl g_int b_int (la_cons (sl (de_op op_mod s_mod (sl (de_callTy call_int1 s_int rfl g_int b_int (la_cons (sl (de_op o_mul s_mul (sl (de_var (pv 3))) (sl (de_op o_add s_add (sl (de_op op_fdivW s_fdiv (sl (de_var (pv 3))) (sl de_int))) (sl de_int))))) la_nil))) (sl de_int))) la_nil))) (sl (de_var (pv 1))))))))))⟩
theorem ok__law_pick {P : Program} {w : World} {K : PySem.W.Frag} {mg : Str → Option Value} {base h : Heap} (X : K.In h) (G : h.Ns mainGlobals mg) (c : SaysX fx fa fn K) :
    ∃ fd, FunD K "_law_pick" "_law_pick" (defArgs s__law_pick) (defBody s__law_pick) (defScope s__law_pick) [] [] (He.fAd K ("_law_pick", none)) fd ∧ FnOk P w K mg base (L2.CX P w) 2 (He.fAd K ("_law_pick", none)) fd N__law_pick_ps (spM K (cl K) 2 m__law_pick) := by
  obtain ⟨fd, F⟩ := c.d.def_ 1 (d := d__law_pick) rfl
  obtain ⟨fd__law_draw, F__law_draw, O__law_draw⟩ := ok__law_draw (P := P) (w := w) (base := base) X G c
  have gg__law_draw : mg "_law_draw" = some (.ref (He.fAd K ("_law_draw", none))) := He.glo_ok X G (c.d.fact 2 (f := .glo "_law_draw") rfl)
  have B__law_draw : Binds K fd__law_draw N__law_draw_ps [] := F__law_draw.bindsN fun _ _ _ _ _ _ us hl => match us, hl with | [_, _], _ => rfl
  have g_len : mg "len" = none := He.free_ok X G (c.d.fact 3 (f := .free "len") rfl)
  exact ⟨fd, F, fn_ok F sc__law_pick (b := b__law_pick) <| fun cdv A outer s H E hr => by
    have hu := L2.hu_of hr
    exact (ds_one (ds_ret (de_ix (o_ix hu) s_ix (sl (de_var (pv 1))) (sl (d_call O__law_draw (hr.mono (by decide)) rfl gg__law_draw F__law_draw.kp B__law_draw passB (da_cons (de_var (pv 0)) (da_cons (de_callB o_len s_len rfl g_len b_len (la_cons (sl (de_var (pv 1))) la_nil)) da_nil)) (lenA_cons (lenA_cons lenA_nil)))) (fun _ _ => rfl))))⟩
theorem ok__law_number {P : Program} {w : World} {K : PySem.W.Frag} {mg : Str → Option Value} {base h : Heap} (X : K.In h) (G : h.Ns mainGlobals mg) (c : SaysX fx fa fn K) :
    ∃ fd, FunD K "_law_number" "_law_number" (defArgs s__law_number) (defBody s__law_number) (defScope s__law_number) [] [] (He.fAd K ("_law_number", none)) fd ∧ FnOk P w K mg base (L2.CX P w) 3 (He.fAd K ("_law_number", none)) fd N__law_number_ps (spM K (cl K) 2 m__law_number) := by
  obtain ⟨fd, F⟩ := c.d.def_ 2 (d := d__law_number) rfl
  obtain ⟨fd__law_draw, F__law_draw, O__law_draw⟩ := ok__law_draw (P := P) (w := w) (base := base) X G c
  have gg__law_draw : mg "_law_draw" = some (.ref (He.fAd K ("_law_draw", none))) := He.glo_ok X G (c.d.fact 2 (f := .glo "_law_draw") rfl)
  have B__law_draw : Binds K fd__law_draw N__law_draw_ps [] := F__law_draw.bindsN fun _ _ _ _ _ _ us hl => match us, hl with | [_, _], _ => rfl
  obtain ⟨fd__law_pick, F__law_pick, O__law_pick⟩ := ok__law_pick (P := P) (w := w) (base := base) X G c
  have gg__law_pick : mg "_law_pick" = some (.ref (He.fAd K ("_law_pick", none))) := He.glo_ok X G (c.d.fact 4 (f := .glo "_law_pick") rfl)
  have B__law_pick : Binds K fd__law_pick N__law_pick_ps [] := F__law_pick.bindsN fun _ _ _ _ _ _ us hl => match us, hl with | [_, _], _ => rfl
  exact ⟨fd, F, fn_ok F sc__law_number (b := b__law_number) <| fun cdv A outer s H E hr => by
    have hu := L2.hu_of hr
    exact (ds_cons (ds_set (ps_set sc__law_number.nd rfl (Or.inl rfl) (de_op op_shl s_shl (sl (d_call O__law_draw (hr.mono (by decide)) rfl gg__law_draw F__law_draw.kp B__law_draw passB (da_cons (de_var (pv 0)) (da_cons (de_op op_shl s_shl (sl de_int) (sl (de_var (pv 1)))) da_nil)) (lenA_cons (lenA_cons lenA_nil)))) (sl (d_call O__law_draw (hr.mono (by decide)) rfl gg__law_draw F__law_draw.kp B__law_draw passB (da_cons (de_var (pv 0)) (da_cons (de_op o_add s_add (sl (de_var (pv 1))) (sl de_int)) da_nil)) (lenA_cons (lenA_cons lenA_nil)))))) (fun _ _ _ z => z))
  (ds_one (ds_ret (de_op op_sub s_sub (sl (de_var (pv 2))) (sl (de_op o_mul s_mul (sl (de_op op_shl s_shl (sl de_int) (sl (de_var (pv 1))))) (sl (d_call O__law_pick (hr.mono (by decide)) rfl gg__law_pick F__law_pick.kp B__law_pick passB (da_cons (de_var (pv 0)) (da_cons (ns (dn_lst (da_cons de_int (da_cons de_int (da_cons de_int (da_cons de_int (da_cons (de_op op_pow s_pow (sl de_int) (sl de_int)) da_nil))))) (lenA_cons (lenA_cons (lenA_cons (lenA_cons (lenA_cons lenA_nil))))))) da_nil)) (lenA_cons (lenA_cons lenA_nil))))))))))⟩
theorem ok__law_rows {P : Program} {w : World} {K : PySem.W.Frag} {mg : Str → Option Value} {base h : Heap} (X : K.In h) (G : h.Ns mainGlobals mg) (c : SaysX fx fa fn K) :
    ∃ fd, FunD K "_law_rows" "_law_rows" (defArgs s__law_rows) (defBody s__law_rows) (defScope s__law_rows) [] [] (He.fAd K ("_law_rows", none)) fd ∧ FnOk P w K mg base (L2.CX P w) 4 (He.fAd K ("_law_rows", none)) fd N__law_rows_ps (spM K (cl K) 4 m__law_rows) := by
  obtain ⟨fd, F⟩ := c.d.def_ 3 (d := d__law_rows) rfl
  have g_range : mg "range" = none := He.free_ok X G (c.d.fact 5 (f := .free "range") rfl)
  obtain ⟨fd__law_draw, F__law_draw, O__law_draw⟩ := ok__law_draw (P := P) (w := w) (base := base) X G c
  have gg__law_draw : mg "_law_draw" = some (.ref (He.fAd K ("_law_draw", none))) := He.glo_ok X G (c.d.fact 2 (f := .glo "_law_draw") rfl)
  have B__law_draw : Binds K fd__law_draw N__law_draw_ps [] := F__law_draw.bindsN fun _ _ _ _ _ _ us hl => match us, hl with | [_, _], _ => rfl
  obtain ⟨fd__law_number, F__law_number, O__law_number⟩ := ok__law_number (P := P) (w := w) (base := base) X G c
  have gg__law_number : mg "_law_number" = some (.ref (He.fAd K ("_law_number", none))) := He.glo_ok X G (c.d.fact 6 (f := .glo "_law_number") rfl)
  have B__law_number : Binds K fd__law_number N__law_number_ps [] := F__law_number.bindsN fun _ _ _ _ _ _ us hl => match us, hl with | [_, _], _ => rfl
  obtain ⟨fd__law_pick, F__law_pick, O__law_pick⟩ := ok__law_pick (P := P) (w := w) (base := base) X G c
  have gg__law_pick : mg "_law_pick" = some (.ref (He.fAd K ("_law_pick", none))) := He.glo_ok X G (c.d.fact 4 (f := .glo "_law_pick") rfl)
  have B__law_pick : Binds K fd__law_pick N__law_pick_ps [] := F__law_pick.bindsN fun _ _ _ _ _ _ us hl => match us, hl with | [_, _], _ => rfl
  have g_tuple : mg "tuple" = none := He.free_ok X G (c.d.fact 7 (f := .free "tuple") rfl)
  have g_list : mg "list" = none := He.free_ok X G (c.d.fact 8 (f := .free "list") rfl)
  exact ⟨fd, F, fn_ok F sc__law_rows (b := b__law_rows) <| fun cdv A outer s H E hr => by
    have hu := L2.hu_of hr
    exact (ds_cons (ds_set (lc_set (own := [("_law_turn", 5)]) rfl sc__law_rows.nd rfl rfl rfl (di_rng1 rfl g_range (da_cons (d_call O__law_draw (hr.mono (by decide)) rfl gg__law_draw F__law_draw.kp B__law_draw passB (da_cons (de_var (pv 0)) (da_cons (de_op o_add s_add (sl (de_var (pv 3))) (sl de_int)) da_nil)) (lenA_cons (lenA_cons lenA_nil))) da_nil) (lenA_cons lenA_nil)) (blkOk_by (own := [("_law_turn", 5)]) (by kernel_rfl)) (fun _ _ _ _ _ => (pg_name sc__law_rows.nd rfl (Or.inl rfl))) (tg_name 5) (fun _ _ _ _ _ => pts_nil) (fun _ _ _ z => yes_t z) (fun _ _ _ _ _ => (ns (dn_lc (own := [("_law_at", 7)]) rfl sc__law_rows.nd (di_rng1 rfl g_range (da_cons (de_var (pv 2)) da_nil) (lenA_cons lenA_nil)) (blkOk_by (own := [("_law_at", 7)]) (by kernel_rfl)) (fun _ _ _ _ _ => (pg_name sc__law_rows.nd rfl (Or.inl rfl))) (tg_name 7) (fun _ _ _ _ _ => pts_nil) (fun _ _ _ z => yes_t z) (fun _ _ _ _ _ => (d_call O__law_number (hr.mono (by decide)) rfl gg__law_number F__law_number.kp B__law_number passL (da_cons (de_var (pv 0)) (da_cons (de_var (pv 1)) da_nil)) (lenA_cons (lenA_cons lenA_nil)))))))) (fun _ _ _ z => t_dn z))
  (ds_one (ds_ret (ns (dn_lc (own := [("_law_row", 6)]) rfl sc__law_rows.nd (di_seqL (sl (de_var (pv 4)))) (blkOk_by (own := [("_law_row", 6)]) (by kernel_rfl)) (fun _ _ _ _ _ => (pg_name sc__law_rows.nd rfl (Or.inl rfl))) (tg_name 6) (fun _ _ _ _ _ => pts_nil) (fun _ _ _ z => yes_t z) (fun _ _ _ _ _ => (d_call O__law_pick (hr.mono (by decide)) rfl gg__law_pick F__law_pick.kp B__law_pick passL (da_cons (de_var (pv 0)) (da_cons (ns (dn_lst (da_cons (ns (dn_callTy call_list_of s_list rfl g_list b_list (la_cons (sl (de_var (pv 6))) la_nil))) (da_cons (de_callTy call_tuple_of s_tup rfl g_tuple b_tuple (la_cons (sl (de_var (pv 6))) la_nil)) da_nil)) (lenA_cons (lenA_cons lenA_nil)))) da_nil)) (lenA_cons (lenA_cons lenA_nil)))))))))⟩
theorem ok__law_small {P : Program} {w : World} {K : PySem.W.Frag} {mg : Str → Option Value} {base h : Heap} (X : K.In h) (G : h.Ns mainGlobals mg) (c : SaysX fx fa fn K) :
    ∃ fd, FunD K "_law_small" "_law_small" (defArgs s__law_small) (defBody s__law_small) (defScope s__law_small) [] [] (He.fAd K ("_law_small", none)) fd ∧ FnOk P w K mg base (L2.CX P w) 5 (He.fAd K ("_law_small", none)) fd N__law_small_ps (spM K (cl K) 1 m__law_small) := by
  obtain ⟨fd, F⟩ := c.d.def_ 4 (d := d__law_small) rfl
  obtain ⟨fd__law_pick, F__law_pick, O__law_pick⟩ := ok__law_pick (P := P) (w := w) (base := base) X G c
  have gg__law_pick : mg "_law_pick" = some (.ref (He.fAd K ("_law_pick", none))) := He.glo_ok X G (c.d.fact 4 (f := .glo "_law_pick") rfl)
  have B__law_pick : Binds K fd__law_pick N__law_pick_ps [] := F__law_pick.bindsN fun _ _ _ _ _ _ us hl => match us, hl with | [_, _], _ => rfl
  obtain ⟨fd__law_rows, F__law_rows, O__law_rows⟩ := ok__law_rows (P := P) (w := w) (base := base) X G c
  have gg__law_rows : mg "_law_rows" = some (.ref (He.fAd K ("_law_rows", none))) := He.glo_ok X G (c.d.fact 9 (f := .glo "_law_rows") rfl)
  have B__law_rows : Binds K fd__law_rows N__law_rows_ps [] := F__law_rows.bindsN fun _ _ _ _ _ _ us hl => match us, hl with | [_, _, _, _], _ => rfl
  exact ⟨fd, F, fn_ok F sc__law_small (b := b__law_small) <| fun cdv A outer s H E hr => by
    have hu := L2.hu_of hr
    exact (ds_cons (ds_set (ps_set sc__law_small.nd rfl (Or.inl rfl) (ns (dn_lst (da_cons (de_tup (da_cons de_int (da_cons de_int da_nil)) (lenA_cons (lenA_cons lenA_nil))) (da_cons (de_tup (da_cons de_int (da_cons de_int da_nil)) (lenA_cons (lenA_cons lenA_nil))) (da_cons (de_tup (da_cons de_int (da_cons de_int da_nil)) (lenA_cons (lenA_cons lenA_nil))) (da_cons (de_tup (da_cons de_int (da_cons de_int da_nil)) (lenA_cons (lenA_cons lenA_nil))) (da_cons (de_tup (da_cons de_int (da_cons de_int da_nil)) (lenA_cons (lenA_cons lenA_nil))) (da_cons (de_tup (da_cons de_int (da_cons de_int da_nil)) (lenA_cons (lenA_cons lenA_nil))) (da_cons (de_tup (da_cons de_int (da_cons de_int da_nil)) (lenA_cons (lenA_cons lenA_nil))) (da_cons (de_tup (da_cons de_int (da_cons de_int da_nil)) (lenA_cons (lenA_cons lenA_nil))) (da_cons (de_tup (da_cons de_int (da_cons de_int da_nil)) (lenA_cons (lenA_cons lenA_nil))) (da_cons (de_tup (da_cons de_int (da_cons de_int da_nil)) (lenA_cons (lenA_cons lenA_nil))) (da_cons (de_tup (da_cons de_int (da_cons de_int da_nil)) (lenA_cons (lenA_cons lenA_nil))) da_nil))))))))))) (lenA_cons (lenA_cons (lenA_cons (lenA_cons (lenA_cons (lenA_cons (lenA_cons (lenA_cons (lenA_cons (lenA_cons (lenA_cons lenA_nil)))))))))))))) (fun _ _ _ z => z))
  (ds_cons (ds_unp (ps_asg (d_call O__law_pick (hr.mono (by decide)) rfl gg__law_pick F__law_pick.kp B__law_pick passB (da_cons (de_var (pv 0)) (da_cons (de_var (pv 1)) da_nil)) (lenA_cons (lenA_cons lenA_nil))) (pg_tup rfl (pgs_cons (pg_name sc__law_small.nd rfl (Or.inl rfl)) (pgs_cons (pg_name sc__law_small.nd rfl (Or.inl rfl)) pgs_nil)))) rfl (fun _ _ _ z => z))
  (ds_one (ds_ret (de_tup (da_cons (de_var (pv 2)) (da_cons (de_var (pv 3)) (da_cons (d_call O__law_rows (hr.mono (by decide)) rfl gg__law_rows F__law_rows.kp B__law_rows passB (da_cons (de_var (pv 0)) (da_cons (de_var (pv 2)) (da_cons (de_var (pv 3)) (da_cons de_int da_nil)))) (lenA_cons (lenA_cons (lenA_cons (lenA_cons lenA_nil))))) da_nil))) (lenA_cons (lenA_cons (lenA_cons lenA_nil))))))))⟩
theorem ok_less {P : Program} {w : World} {K : PySem.W.Frag} {mg : Str → Option Value} {base h : Heap} (X : K.In h) (G : h.Ns mainGlobals mg) (c : SaysX fx fa fn K) :
    ∃ fd, FunD K "less" "less" (defArgs s_less) (defBody s_less) (defScope s_less) [] [] (He.fAd K ("less", none)) fd ∧ FnOk P w K mg base (L2.CX P w) 1 (He.fAd K ("less", none)) fd N_less_ps (spM K (cl K) 4 m_less) := by
  obtain ⟨fd, F⟩ := c.d.def_ 5 (d := d_less) rfl
  have g_tuple : mg "tuple" = none := He.free_ok X G (c.d.fact 7 (f := .free "tuple") rfl)
  have g_zip : mg "zip" = none := He.free_ok X G (c.d.fact 14 (f := .free "zip") rfl)
  exact ⟨fd, F, fn_ok F sc_less (b := b_less) <| fun cdv A outer s H E hr => by
    have hu := L2.hu_of hr
    exact (ds_one (ds_ret (de_callTy call_tuple_of s_tup rfl g_tuple b_tuple (la_cons (nl (dn_lc (own := [("one", 4), ("its", 5)]) rfl sc_less.nd (di_zpL rfl g_zip (la_cons (sl (de_var (pv 0))) (la_cons (sl (de_var (pv 1))) la_nil))) (blkOk_by (own := [("one", 4), ("its", 5)]) (by kernel_rfl)) (fun _ _ _ _ _ => (pg_tup rfl (pgs_cons (pg_name sc_less.nd rfl (Or.inl rfl)) (pgs_cons (pg_name sc_less.nd rfl (Or.inl rfl)) pgs_nil)))) (tg_tup (tgs_cons (tg_name 4) (tgs_cons (tg_name 5) tgs_nil)) (tfl_cons (tfl_cons tfl_nil))) (fun _ _ _ _ _ => pts_nil) (fun _ _ _ z => yes_t z) (fun _ _ _ _ _ => (de_op op_mod s_mod (sl (de_op op_sub s_sub (sl (de_var (pv 4))) (sl (de_op o_mul s_mul (sl (de_var (pv 5))) (sl (de_var (pv 2))))))) (sl (de_var (pv 3))))))) la_nil))))⟩
theorem ok_Stair_tidied {P : Program} {w : World} {K : PySem.W.Frag} {mg : Str → Option Value} {base h : Heap} (X : K.In h) (G : h.Ns mainGlobals mg) (c : SaysX fx fa fn K) :
    ∃ fd, FunD K "tidied" "Stair.tidied" (defArgs s_Stair_tidied) (defBody s_Stair_tidied) (defScope s_Stair_tidied) [] [] (He.fAd K ("Stair", some "tidied")) fd ∧ FnOk P w K mg base (L2.CX P w) 2 (He.fAd K ("Stair", some "tidied")) fd N_Stair_tidied_ps (spM K (cl K) 1 m_Stair_tidied) := by
  obtain ⟨fd, F⟩ := c.d.def_ 6 (d := d_Stair_tidied) rfl
  have g_sorted : mg "sorted" = none := He.free_ok X G (c.d.fact 11 (f := .free "sorted") rfl)
  have cls_Stair : Cls K (He.ga K "Stair") := He.cls_ok (c.d.fact 12 (f := .cls "Stair") rfl)
  have noat_Stair_pivots : NoAttr K (He.ga K "Stair") "pivots" := He.noat_ok (c.d.fact 13 (f := .noat "Stair" "pivots") rfl)
  have g_enumerate : mg "enumerate" = none := He.free_ok X G (c.d.fact 0 (f := .free "enumerate") rfl)
  obtain ⟨fd_less, F_less, O_less⟩ := ok_less (P := P) (w := w) (base := base) X G c
  have gg_less : mg "less" = some (.ref (He.fAd K ("less", none))) := He.glo_ok X G (c.d.fact 15 (f := .glo "less") rfl)
  have B_less : Binds K fd_less N_less_ps [] := F_less.bindsN fun _ _ _ _ _ _ us hl => match us, hl with | [_, _, _, _], _ => rfl
  have noat_Stair_modulus : NoAttr K (He.ga K "Stair") "modulus" := He.noat_ok (c.d.fact 16 (f := .noat "Stair" "modulus") rfl)
  exact ⟨fd, F, fn_ok F sc_Stair_tidied (b := b_Stair_tidied) <| fun cdv A outer s H E hr => by
    have hu := L2.hu_of hr
    exact (ds_cons (ds_parOV (ps_par rfl sc_Stair_tidied.nd rfl rfl (by decide) rfl rfl (pa_cons (dn_lst da_nil lenA_nil) (pa_cons (ns (dn_callB (call_sortedDI rfl) s_sortD rfl g_sorted b_sorted (la_cons (sl (de_fld (cl := cl K) (c := 0) (sl (de_var (pv 0))) cls_Stair noat_Stair_pivots rfl)) la_nil))) pa_nil)) rfl) (fun _ _ _ z => z) (fun _ _ _ z => z))
  (ds_cons (ds_for passO rfl (di_en rfl g_enumerate (da_cons (de_var (pv 2)) da_nil)) (pg_tup rfl (pgs_cons (pg_name sc_Stair_tidied.nd rfl (Or.inl rfl)) (pgs_cons (pg_name sc_Stair_tidied.nd rfl (Or.inl rfl)) pgs_nil))) (tg_tup (tgs_cons (tg_name 3) (tgs_cons (tg_name 4) tgs_nil)) (tfl_cons (tfl_cons tfl_nil)))
  (ds_cons (ds_set (ps_set sc_Stair_tidied.nd rfl (Or.inl rfl) (de_ix (o_ix hu) s_ix (sl (de_fld (cl := cl K) (c := 0) (sl (de_var (pv 0))) cls_Stair noat_Stair_pivots rfl)) (sl (de_var (pv 4))) (fun _ _ => rfl))) (fun _ _ _ z => z))
  (ds_cons (ds_for passO rfl (di_seq (de_sl (sl (de_var (pv 2))) (do_some (de_op o_add s_add (sl (de_var (pv 3))) (sl de_int))) do_none)) (pg_name sc_Stair_tidied.nd rfl (Or.inl rfl)) (tg_name 6)
  (ds_cons (ds_set (ps_set sc_Stair_tidied.nd rfl (Or.inl rfl) (de_ix (o_ix hu) s_ix (sl (de_fld (cl := cl K) (c := 0) (sl (de_var (pv 0))) cls_Stair noat_Stair_pivots rfl)) (sl (de_var (pv 6))) (fun _ _ => rfl))) (fun _ _ _ z => z))
  (ds_one (ds_set (ps_set sc_Stair_tidied.nd rfl (Or.inl rfl) (d_call O_less (hr.mono (by decide)) rfl gg_less F_less.kp B_less passB (da_cons (de_var (pv 5)) (da_cons (de_var (pv 7)) (da_cons (de_op op_fdivW s_fdiv (sl (de_ix (o_ix hu) s_ix (sl (de_var (pv 5))) (sl (de_var (pv 6))) (fun _ _ => rfl))) (sl (de_ix (o_ix hu) s_ix (sl (de_var (pv 7))) (sl (de_var (pv 6))) (fun _ _ => rfl)))) (da_cons (de_fld (cl := cl K) (c := 0) (sl (de_var (pv 0))) cls_Stair noat_Stair_modulus rfl) da_nil)))) (lenA_cons (lenA_cons (lenA_cons (lenA_cons lenA_nil)))))) (fun _ _ _ z => z)))))
  (ds_one (ds_appO (ps_expr (pe_bm PySem.F.plainAttrs_list PySem.F.slot_list_append PySem.F.type_list_append mt_append (pv 1) (pa_cons (de_var (pv 5)) pa_nil))) (fun _ _ _ z => z))))))
  (ds_shr (ds_one (ds_ret (de_var (pv 1)))))))⟩
theorem blind_Stair___init__ : Blind m_Stair___init__ := by
  unfold m_Stair___init__
  refine blind_of ?_
  unfold b_Stair___init__
  repeat' (first | exact be_var _ | exact be_varL _ | exact be_c _ | exact be_nil | exact be_dNew | apply be_newR | exact be_yes | exact be_oN | exact bs_nil | exact bs_bad | exact bf_n _ | exact bfs_nil | apply bs_seq | apply bs_expr | apply bs_set | apply bs_own | apply bs_if | apply bs_sf | apply be_cons | apply be_bin | apply be_un | apply be_tv | apply be_andT | apply be_orT | apply be_notT | apply be_andV | apply be_orV | apply be_notV | apply be_if | apply be_ch | apply be_tup | apply be_lst | apply be_cB | apply be_call | apply be_callD | apply be_make | apply be_sl | apply be_slN | apply be_isi | apply be_iso | apply be_fld | apply be_meth | apply be_seqI | apply be_strI | apply be_rngI | apply be_enI | apply be_zpI | apply be_comp | apply bf_t | apply bfs_cons | apply be_oS)
theorem ok_Stair___init__ {P : Program} {w : World} {K : PySem.W.Frag} {mg : Str → Option Value} {base h : Heap} (X : K.In h) (G : h.Ns mainGlobals mg) (c : SaysX fx fa fn K) :
    ∃ fd, FunD K "__init__" "Stair.__init__" (defArgs s_Stair___init__) (defBody s_Stair___init__) (defScope s_Stair___init__) [] [] (He.fAd K ("Stair", some "__init__")) fd ∧ FnOk P w K mg base (L2.CX P w) 1 (He.fAd K ("Stair", some "__init__")) fd N_Stair___init___ps (spI K (cl K) 0 2 m_Stair___init__) := by
  obtain ⟨fd, F⟩ := c.d.def_ 7 (d := d_Stair___init__) rfl
  have cls_Stair : Cls K (He.ga K "Stair") := He.cls_ok (c.d.fact 12 (f := .cls "Stair") rfl)
  have noat_Stair_modulus : NoAttr K (He.ga K "Stair") "modulus" := He.noat_ok (c.d.fact 16 (f := .noat "Stair" "modulus") rfl)
  have noat_Stair_wide : NoAttr K (He.ga K "Stair") "wide" := He.noat_ok (c.d.fact 18 (f := .noat "Stair" "wide") rfl)
  have noat_Stair_pivots : NoAttr K (He.ga K "Stair") "pivots" := He.noat_ok (c.d.fact 13 (f := .noat "Stair" "pivots") rfl)
  exact ⟨fd, F, init_fn (c := 0) (n := 2) F sc_Stair___init__ rfl (b := b_Stair___init__) <| fun cdv A outer s H E hr => by
    have hu := L2.hu_of hr
    exact (ds_cons (ds_sf (cl := cl K) (c := 0) (ps_fld (pv 0) (de_op op_shl s_shl (sl de_int) (sl (de_var (pv 1)))) rfl) (fun _ _ _ z => z) cls_Stair noat_Stair_modulus)
  (ds_cons (ds_sf (cl := cl K) (c := 0) (ps_fld (pv 0) (de_var (pv 2)) rfl) (fun _ _ _ z => z) cls_Stair noat_Stair_wide)
  (ds_one (ds_sf (cl := cl K) (c := 0) (ps_fld (pv 0) (de_newR dn_dict) rfl) (fun _ _ _ z => z) cls_Stair noat_Stair_pivots))))⟩
theorem ok_power_in {P : Program} {w : World} {K : PySem.W.Frag} {mg : Str → Option Value} {base h : Heap} (X : K.In h) (G : h.Ns mainGlobals mg) (c : SaysX fx fa fn K) :
    ∃ fd, FunD K "power_in" "power_in" (defArgs s_power_in) (defBody s_power_in) (defScope s_power_in) [] [] (He.fAd K ("power_in", none)) fd ∧ FnOk P w K mg base (L2.CX P w) 1 (He.fAd K ("power_in", none)) fd N_power_in_ps (spM K (cl K) 1 m_power_in) := by
  obtain ⟨fd, F⟩ := c.d.def_ 8 (d := d_power_in) rfl
  exact ⟨fd, F, fn_ok F sc_power_in (b := b_power_in) <| fun cdv A outer s H E hr => by
    have hu := L2.hu_of hr
    exact (ds_one (ds_ret (de_op op_and s_and (sl (de_var (pv 0))) (sl (de_un un_neg s_neg (sl (de_var (pv 0))))))))⟩
theorem ok_times {P : Program} {w : World} {K : PySem.W.Frag} {mg : Str → Option Value} {base h : Heap} (X : K.In h) (G : h.Ns mainGlobals mg) (c : SaysX fx fa fn K) :
    ∃ fd, FunD K "times" "times" (defArgs s_times) (defBody s_times) (defScope s_times) [] [] (He.fAd K ("times", none)) fd ∧ FnOk P w K mg base (L2.CX P w) 1 (He.fAd K ("times", none)) fd N_times_ps (spM K (cl K) 3 m_times) := by
  obtain ⟨fd, F⟩ := c.d.def_ 9 (d := d_times) rfl
  have g_tuple : mg "tuple" = none := He.free_ok X G (c.d.fact 7 (f := .free "tuple") rfl)
  exact ⟨fd, F, fn_ok F sc_times (b := b_times) <| fun cdv A outer s H E hr => by
    have hu := L2.hu_of hr
    exact (ds_one (ds_ret (de_callTy call_tuple_of s_tup rfl g_tuple b_tuple (la_cons (nl (dn_lc (own := [("one", 3)]) rfl sc_times.nd (di_seqL (sl (de_var (pv 0)))) (blkOk_by (own := [("one", 3)]) (by kernel_rfl)) (fun _ _ _ _ _ => (pg_name sc_times.nd rfl (Or.inl rfl))) (tg_name 3) (fun _ _ _ _ _ => pts_nil) (fun _ _ _ z => yes_t z) (fun _ _ _ _ _ => (de_op op_mod s_mod (sl (de_op o_mul s_mul (sl (de_var (pv 3))) (sl (de_var (pv 1))))) (sl (de_var (pv 2))))))) la_nil))))⟩
theorem ok_inverse {P : Program} {w : World} {K : PySem.W.Frag} {mg : Str → Option Value} {base h : Heap} (X : K.In h) (G : h.Ns mainGlobals mg) (c : SaysX fx fa fn K) :
    ∃ fd, FunD K "inverse" "inverse" (defArgs s_inverse) (defBody s_inverse) (defScope s_inverse) [] [] (He.fAd K ("inverse", none)) fd ∧ FnOk P w K mg base (L2.CX P w) 1 (He.fAd K ("inverse", none)) fd N_inverse_ps (spM K (cl K) 2 m_inverse) := by
  obtain ⟨fd, F⟩ := c.d.def_ 10 (d := d_inverse) rfl
  have g_range : mg "range" = none := He.free_ok X G (c.d.fact 5 (f := .free "range") rfl)
  exact ⟨fd, F, fn_ok F sc_inverse (b := b_inverse) <| fun cdv A outer s H E hr => by
    have hu := L2.hu_of hr
    exact (ds_cons (ds_set (ps_set sc_inverse.nd rfl (Or.inl rfl) (de_var (pv 0))) (fun _ _ _ z => z))
  (ds_cons (ds_for passO rfl (di_rng1 rfl g_range (da_cons de_int da_nil) (lenA_cons lenA_nil)) (pg_name sc_inverse.nd rfl (Or.inl rfl)) (tg_name 3)
  (ds_one (ds_set (ps_set sc_inverse.nd rfl (Or.inl rfl) (de_op op_mod s_mod (sl (de_op o_mul s_mul (sl (de_var (pv 2))) (sl (de_op op_sub s_sub (sl de_int) (sl (de_op o_mul s_mul (sl (de_var (pv 0))) (sl (de_var (pv 2))))))))) (sl (de_var (pv 1))))) (fun _ _ _ z => z))))
  (ds_one (ds_ret (de_op op_mod s_mod (sl (de_var (pv 2))) (sl (de_var (pv 1))))))))⟩
theorem ok_Stair_passed {P : Program} {w : World} {K : PySem.W.Frag} {mg : Str → Option Value} {base h : Heap} (X : K.In h) (G : h.Ns mainGlobals mg) (c : SaysX fx fa fn K) :
    ∃ fd, FunD K "passed" "Stair.passed" (defArgs s_Stair_passed) (defBody s_Stair_passed) (defScope s_Stair_passed) [] [] (He.fAd K ("Stair", some "passed")) fd ∧ FnOk P w K mg base (L2.CX P w) 2 (He.fAd K ("Stair", some "passed")) fd N_Stair_passed_ps (spM K (cl K) 4 m_Stair_passed) := by
  obtain ⟨fd, F⟩ := c.d.def_ 11 (d := d_Stair_passed) rfl
  have cls_Stair : Cls K (He.ga K "Stair") := He.cls_ok (c.d.fact 12 (f := .cls "Stair") rfl)
  have noat_Stair_pivots : NoAttr K (He.ga K "Stair") "pivots" := He.noat_ok (c.d.fact 13 (f := .noat "Stair" "pivots") rfl)
  obtain ⟨fd_less, F_less, O_less⟩ := ok_less (P := P) (w := w) (base := base) X G c
  have gg_less : mg "less" = some (.ref (He.fAd K ("less", none))) := He.glo_ok X G (c.d.fact 15 (f := .glo "less") rfl)
  have B_less : Binds K fd_less N_less_ps [] := F_less.bindsN fun _ _ _ _ _ _ us hl => match us, hl with | [_, _, _, _], _ => rfl
  have noat_Stair_modulus : NoAttr K (He.ga K "Stair") "modulus" := He.noat_ok (c.d.fact 16 (f := .noat "Stair" "modulus") rfl)
  obtain ⟨fd_power_in, F_power_in, O_power_in⟩ := ok_power_in (P := P) (w := w) (base := base) X G c
  have gg_power_in : mg "power_in" = some (.ref (He.fAd K ("power_in", none))) := He.glo_ok X G (c.d.fact 21 (f := .glo "power_in") rfl)
  have B_power_in : Binds K fd_power_in N_power_in_ps [] := F_power_in.bindsN fun _ _ _ _ _ _ us hl => match us, hl with | [_], _ => rfl
  obtain ⟨fd_times, F_times, O_times⟩ := ok_times (P := P) (w := w) (base := base) X G c
  have gg_times : mg "times" = some (.ref (He.fAd K ("times", none))) := He.glo_ok X G (c.d.fact 22 (f := .glo "times") rfl)
  have B_times : Binds K fd_times N_times_ps [] := F_times.bindsN fun _ _ _ _ _ _ us hl => match us, hl with | [_, _, _], _ => rfl
  obtain ⟨fd_inverse, F_inverse, O_inverse⟩ := ok_inverse (P := P) (w := w) (base := base) X G c
  have gg_inverse : mg "inverse" = some (.ref (He.fAd K ("inverse", none))) := He.glo_ok X G (c.d.fact 23 (f := .glo "inverse") rfl)
  have B_inverse : Binds K fd_inverse N_inverse_ps [] := F_inverse.bindsN fun _ _ _ _ _ _ us hl => match us, hl with | [_, _], _ => rfl
  exact ⟨fd, F, fn_ok F sc_Stair_passed (b := b_Stair_passed) <| fun cdv A outer s H E hr => by
    have hu := L2.hu_of hr
    exact (ds_cons (ds_set (ps_set sc_Stair_passed.nd rfl (Or.inl rfl) (de_getM (pe_dget1 hu (sl (de_fld (cl := cl K) (c := 0) (sl (de_var (pv 0))) cls_Stair noat_Stair_pivots rfl)) (de_var (pv 2)) ⟨rfl, rfl, rfl, rfl⟩))) (fun _ _ _ z => z))
  (ds_cons (ds_if (PW.pt (dw_and (dt_cmp op_notN s_notN (sl (de_var (pv 4))) (sl de_non) (nomark _)) (dw_and (dt_cmp op_ge (s_cmp _) (sl (de_ix (o_ix hu) s_ix (sl (de_var (pv 1))) (sl (de_var (pv 2))) (fun _ _ => rfl))) (sl (de_ix (o_ix hu) s_ix (sl (de_var (pv 4))) (sl (de_var (pv 2))) (fun _ _ => rfl))) (nomark _)) (dw_and1 (dt_cmp (op_eqD hr.units) s_eq (sl (de_op op_mod s_mod (sl (de_ix (o_ix hu) s_ix (sl (de_var (pv 1))) (sl (de_var (pv 2))) (fun _ _ => rfl))) (sl (de_ix (o_ix hu) s_ix (sl (de_var (pv 4))) (sl (de_var (pv 2))) (fun _ _ => rfl))))) (sl de_int) (nomark _))))))
  (ds_one (ds_ret (d_call O_less (hr.mono (by decide)) rfl gg_less F_less.kp B_less passB (da_cons (de_var (pv 1)) (da_cons (de_var (pv 4)) (da_cons (de_op op_fdivW s_fdiv (sl (de_ix (o_ix hu) s_ix (sl (de_var (pv 1))) (sl (de_var (pv 2))) (fun _ _ => rfl))) (sl (de_ix (o_ix hu) s_ix (sl (de_var (pv 4))) (sl (de_var (pv 2))) (fun _ _ => rfl)))) (da_cons (de_fld (cl := cl K) (c := 0) (sl (de_var (pv 0))) cls_Stair noat_Stair_modulus rfl) da_nil)))) (lenA_cons (lenA_cons (lenA_cons (lenA_cons lenA_nil)))))))
  ds_nil)
  (ds_cons (ds_set (ps_set sc_Stair_passed.nd rfl (Or.inl rfl) (d_call O_power_in (hr.mono (by decide)) rfl gg_power_in F_power_in.kp B_power_in passB (da_cons (de_ix (o_ix hu) s_ix (sl (de_var (pv 1))) (sl (de_var (pv 2))) (fun _ _ => rfl)) da_nil) (lenA_cons lenA_nil))) (fun _ _ _ z => z))
  (ds_cons (ds_set (ps_set sc_Stair_passed.nd rfl (Or.inl rfl) (d_call O_times (hr.mono (by decide)) rfl gg_times F_times.kp B_times passB (da_cons (de_var (pv 1)) (da_cons (d_call O_inverse (hr.mono (by decide)) rfl gg_inverse F_inverse.kp B_inverse passB (da_cons (de_op op_fdivW s_fdiv (sl (de_ix (o_ix hu) s_ix (sl (de_var (pv 1))) (sl (de_var (pv 2))) (fun _ _ => rfl))) (sl (de_var (pv 5)))) (da_cons (de_fld (cl := cl K) (c := 0) (sl (de_var (pv 0))) cls_Stair noat_Stair_modulus rfl) da_nil)) (lenA_cons (lenA_cons lenA_nil))) (da_cons (de_fld (cl := cl K) (c := 0) (sl (de_var (pv 0))) cls_Stair noat_Stair_modulus rfl) da_nil))) (lenA_cons (lenA_cons (lenA_cons lenA_nil))))) (fun _ _ _ z => z))
  (ds_cons (ds_setDR (ps_asg (de_var (pv 6)) (pg_sub (de_fld (cl := cl K) (c := 0) (sl (de_var (pv 0))) cls_Stair noat_Stair_pivots rfl) (de_var (pv 2)) (set_dict hu))) (fun _ _ _ z => z) (fun _ _ _ z => z) (fun _ _ _ z => z))
  (ds_cons (ds_set (ps_set sc_Stair_passed.nd rfl (Or.inl rfl) (d_call O_times (hr.mono (by decide)) rfl gg_times F_times.kp B_times passB (da_cons (de_var (pv 6)) (da_cons (de_op op_fdivW s_fdiv (sl (de_fld (cl := cl K) (c := 0) (sl (de_var (pv 0))) cls_Stair noat_Stair_modulus rfl)) (sl (de_var (pv 5)))) (da_cons (de_fld (cl := cl K) (c := 0) (sl (de_var (pv 0))) cls_Stair noat_Stair_modulus rfl) da_nil))) (lenA_cons (lenA_cons (lenA_cons lenA_nil))))) (fun _ _ _ z => z))
  (ds_cons (ds_if (dt_cmp op_isN s_isN (sl (de_var (pv 4))) (sl de_non) (nomark _))
  (ds_one (ds_ret (de_var (pv 7))))
  ds_nil)
  (ds_cons (ds_appR (ps_expr (pe_bm PySem.F.plainAttrs_list PySem.F.slot_list_append PySem.F.type_list_append mt_append (pv 3) (pa_cons (de_var (pv 7)) pa_nil))) (fun _ _ _ z => z))
  (ds_one (ds_ret (d_call O_less (hr.mono (by decide)) rfl gg_less F_less.kp B_less passB (da_cons (de_var (pv 4)) (da_cons (de_var (pv 6)) (da_cons (de_op op_fdivW s_fdiv (sl (de_ix (o_ix hu) s_ix (sl (de_var (pv 4))) (sl (de_var (pv 2))) (fun _ _ => rfl))) (sl (de_var (pv 5)))) (da_cons (de_fld (cl := cl K) (c := 0) (sl (de_var (pv 0))) cls_Stair noat_Stair_modulus rfl) da_nil)))) (lenA_cons (lenA_cons (lenA_cons (lenA_cons lenA_nil)))))))))))))))⟩
theorem ok_Stair_put {P : Program} {w : World} {K : PySem.W.Frag} {mg : Str → Option Value} {base h : Heap} (X : K.In h) (G : h.Ns mainGlobals mg) (c : SaysX fx fa fn K) :
    ∃ fd, FunD K "put" "Stair.put" (defArgs s_Stair_put) (defBody s_Stair_put) (defScope s_Stair_put) [] [] (He.fAd K ("Stair", some "put")) fd ∧ FnOk P w K mg base (L2.CX P w) 3 (He.fAd K ("Stair", some "put")) fd N_Stair_put_ps (spM K (cl K) 2 m_Stair_put) := by
  obtain ⟨fd, F⟩ := c.d.def_ 12 (d := d_Stair_put) rfl
  have g_range : mg "range" = none := He.free_ok X G (c.d.fact 5 (f := .free "range") rfl)
  have cls_Stair : Cls K (He.ga K "Stair") := He.cls_ok (c.d.fact 12 (f := .cls "Stair") rfl)
  have noat_Stair_wide : NoAttr K (He.ga K "Stair") "wide" := He.noat_ok (c.d.fact 18 (f := .noat "Stair" "wide") rfl)
  obtain ⟨fd_Stair_passed, F_Stair_passed, O_Stair_passed⟩ := ok_Stair_passed (P := P) (w := w) (base := base) X G c
  have B_Stair_passed : Binds K fd_Stair_passed N_Stair_passed_ps [] := F_Stair_passed.bindsN fun _ _ _ _ _ _ us hl => match us, hl with | [_, _, _, _], _ => rfl
  have mt_Stair_passed : Meth K (He.ga K "Stair") "passed" (He.fAd K ("Stair", some "passed")) := He.meth_ok (c.d.fact 24 (f := .meth "Stair" "passed") rfl)
  exact ⟨fd, F, fn_ok F sc_Stair_put (b := b_Stair_put) <| fun cdv A outer s H E hr => by
    have hu := L2.hu_of hr
    exact (ds_cons (ds_new (ps_set sc_Stair_put.nd rfl (Or.inl rfl) (dn_lst (da_cons (de_var (pv 1)) da_nil) (lenA_cons lenA_nil))) (fun _ _ _ z => z))
  (ds_one (ds_while 100000 passO (dt_cmp ((op_neLen hu).or (op_neD hr.units)) s_neN (sl (de_var (pv 2))) (nl (dn_lst da_nil lenA_nil)) (nomark _))
  (ds_cons (ds_set (ps_set sc_Stair_put.nd rfl (Or.inl rfl) (de_popE (pe_bm0 PySem.F.plainAttrs_list PySem.F.slot_list_pop PySem.F.type_list_pop mt_pop (pv 2)))) (fun _ _ _ z => z))
  (ds_one (ds_for passO rfl (di_rng1 rfl g_range (da_cons (de_fld (cl := cl K) (c := 0) (sl (de_var (pv 0))) cls_Stair noat_Stair_wide rfl) da_nil) (lenA_cons lenA_nil)) (pg_name sc_Stair_put.nd rfl (Or.inl rfl)) (tg_name 3)
  (ds_one (ds_if (dt_cmp (op_neD hr.units) s_ne (sl (de_ix (o_ix hu) s_ix (sl (de_var (pv 1))) (sl (de_var (pv 3))) (fun _ _ => rfl))) (sl de_int) (nomark _))
  (ds_one (ds_set (ps_set sc_Stair_put.nd rfl (Or.inl rfl) (d_meth (cl := cl K) (c := 0) (de_var (pv 0)) cls_Stair mt_Stair_passed O_Stair_passed (hr.mono (by decide)) B_Stair_passed passB (da_cons (de_var (pv 1)) (da_cons (de_var (pv 3)) (da_cons (de_var (pv 2)) da_nil))) (lenA_cons (lenA_cons (lenA_cons lenA_nil))))) (fun _ _ _ z => z)))
  ds_nil))))))))⟩
theorem ok_stair_of {P : Program} {w : World} {K : PySem.W.Frag} {mg : Str → Option Value} {base h : Heap} (X : K.In h) (G : h.Ns mainGlobals mg) (c : SaysX fx fa fn K) :
    ∃ fd, FunD K "stair_of" "stair_of" (defArgs s_stair_of) (defBody s_stair_of) (defScope s_stair_of) [] [] (He.fAd K ("stair_of", none)) fd ∧ FnOk P w K mg base (L2.CX P w) 4 (He.fAd K ("stair_of", none)) fd N_stair_of_ps (spM K (cl K) 3 m_stair_of) := by
  obtain ⟨fd, F⟩ := c.d.def_ 13 (d := d_stair_of) rfl
  obtain ⟨fd_Stair___init__, F_Stair___init__, O_Stair___init__⟩ := ok_Stair___init__ (P := P) (w := w) (base := base) X G c
  have gg_Stair : mg "Stair" = some (.ref (He.ga K "Stair")) := He.glo_ok X G (c.d.fact 20 (f := .glo "Stair") rfl)
  have mk_Stair : Mk K (He.ga K "Stair") (He.fAd K ("Stair", some "__init__")) := He.mkr_ok (c.d.fact 19 (f := .mkr "Stair") rfl)
  have B_Stair___init__ : Binds K fd_Stair___init__ N_Stair___init___ps [] := F_Stair___init__.bindsN fun _ _ _ _ _ _ us hl => match us, hl with | [_, _, _], _ => rfl
  obtain ⟨fd_Stair_put, F_Stair_put, O_Stair_put⟩ := ok_Stair_put (P := P) (w := w) (base := base) X G c
  have B_Stair_put : Binds K fd_Stair_put N_Stair_put_ps [] := F_Stair_put.bindsN fun _ _ _ _ _ _ us hl => match us, hl with | [_, _], _ => rfl
  have cls_Stair : Cls K (He.ga K "Stair") := He.cls_ok (c.d.fact 12 (f := .cls "Stair") rfl)
  have mt_Stair_put : Meth K (He.ga K "Stair") "put" (He.fAd K ("Stair", some "put")) := He.meth_ok (c.d.fact 25 (f := .meth "Stair" "put") rfl)
  exact ⟨fd, F, fn_ok F sc_stair_of (b := b_stair_of) <| fun cdv A outer s H E hr => by
    have hu := L2.hu_of hr
    exact (ds_cons (ds_set (ps_set sc_stair_of.nd rfl (Or.inl rfl) (ns (d_make (cl := cl K) (c := 0) mk_Stair O_Stair___init__ (hr.mono (by decide)) rfl gg_Stair B_Stair___init__ passB (da_cons (de_var (pv 0)) (da_cons (de_var (pv 1)) da_nil)) (lenA_cons (lenA_cons lenA_nil)) blind_Stair___init__))) (fun _ _ _ z => z))
  (ds_cons (ds_for passO rfl (di_seq (de_var (pv 2))) (pg_name sc_stair_of.nd rfl (Or.inl rfl)) (tg_name 4)
  (ds_one (ds_expr (ps_expr (d_meth (cl := cl K) (c := 0) (de_var (pv 3)) cls_Stair mt_Stair_put O_Stair_put (hr.mono (by decide)) B_Stair_put passB (da_cons (de_var (pv 4)) da_nil) (lenA_cons lenA_nil))) (fun _ _ _ z => z))))
  (ds_one (ds_ret (de_var (pv 3))))))⟩
theorem ok_is_int {P : Program} {w : World} {K : PySem.W.Frag} {mg : Str → Option Value} {base h : Heap} (X : K.In h) (G : h.Ns mainGlobals mg) (c : SaysX fx fa fn K) :
    ∃ fd, FunD K "is_int" "is_int" (defArgs s_is_int) (defBody s_is_int) (defScope s_is_int) [] [] (He.fAd K ("is_int", none)) fd ∧ FnOk P w K mg base (L2.CX P w) 1 (He.fAd K ("is_int", none)) fd N_is_int_ps (spM K (cl K) 1 m_is_int) := by
  obtain ⟨fd, F⟩ := c.d.def_ 14 (d := d_is_int) rfl
  have g_isinstance : mg "isinstance" = none := He.free_ok X G (c.d.fact 27 (f := .free "isinstance") rfl)
  have g_bool : mg "bool" = none := He.free_ok X G (c.d.fact 28 (f := .free "bool") rfl)
  have g_int : mg "int" = none := He.free_ok X G (c.d.fact 1 (f := .free "int") rfl)
  exact ⟨fd, F, fn_ok F sc_is_int (b := b_is_int) <| fun cdv A outer s H E hr => by
    have hu := L2.hu_of hr
    exact (ds_one (ds_ret (de_and (de_isi1 (t := .int) (sl (de_var (pv 0))) (pe_bltn rfl g_int b_int rfl) rfl g_isinstance b_isinstance) (de_one (de_not (de_isi1 (t := .bool) (sl (de_var (pv 0))) (pe_bltn rfl g_bool b_bool rfl) rfl g_isinstance b_isinstance))))))⟩
theorem ok_is_from {P : Program} {w : World} {K : PySem.W.Frag} {mg : Str → Option Value} {base h : Heap} (X : K.In h) (G : h.Ns mainGlobals mg) (c : SaysX fx fa fn K) :
    ∃ fd, FunD K "is_from" "is_from" (defArgs s_is_from) (defBody s_is_from) (defScope s_is_from) [] [] (He.fAd K ("is_from", none)) fd ∧ FnOk P w K mg base (L2.CX P w) 2 (He.fAd K ("is_from", none)) fd N_is_from_ps (spM K (cl K) 3 m_is_from) := by
  obtain ⟨fd, F⟩ := c.d.def_ 15 (d := d_is_from) rfl
  obtain ⟨fd_is_int, F_is_int, O_is_int⟩ := ok_is_int (P := P) (w := w) (base := base) X G c
  have gg_is_int : mg "is_int" = some (.ref (He.fAd K ("is_int", none))) := He.glo_ok X G (c.d.fact 29 (f := .glo "is_int") rfl)
  have B_is_int : Binds K fd_is_int N_is_int_ps [] := F_is_int.bindsN fun _ _ _ _ _ _ us hl => match us, hl with | [_], _ => rfl
  exact ⟨fd, F, fn_ok F sc_is_from (b := b_is_from) <| fun cdv A outer s H E hr => by
    have hu := L2.hu_of hr
    exact (ds_one (ds_ret (de_and (d_call O_is_int (hr.mono (by decide)) rfl gg_is_int F_is_int.kp B_is_int passB (da_cons (de_var (pv 0)) da_nil) (lenA_cons lenA_nil)) (de_one (de_ch op_le op_le (s_cmp _) (s_cmp _) (sl (de_var (pv 1))) (sl (de_var (pv 0))) (sl (de_var (pv 2))))))))⟩
theorem ok_NoRows___init__ {P : Program} {w : World} {K : PySem.W.Frag} {mg : Str → Option Value} {base h : Heap} (X : K.In h) (G : h.Ns mainGlobals mg) (c : SaysX fx fa fn K) :
    ∃ fd, FunD K "__init__" "NoRows.__init__" (defArgs s_NoRows___init__) (defBody s_NoRows___init__) (defScope s_NoRows___init__) [] [] (He.fAd K ("NoRows", some "__init__")) fd ∧ FnOk P w K mg base (L2.CX P w) 1 (He.fAd K ("NoRows", some "__init__")) fd N_NoRows___init___ps (spX2 (He.ga K "NoRows") "part" "index") := by
  obtain ⟨fd, F⟩ := c.d.def_ 16 (d := d_NoRows___init__) rfl
  have oe_NoRows := fx_oex_ok (c.fx 0 (f := fx_oex "NoRows") rfl)
  have no_NoRows_part := fx_no_ok (c.fx 1 (f := fx_no "NoRows" "part") rfl)
  have no_NoRows_index := fx_no_ok (c.fx 2 (f := fx_no "NoRows" "index") rfl)
  have gg_AttrError : mg "AttrError" = some (.ref (He.ga K "AttrError")) := He.glo_ok X G (c.d.fact 32 (f := .glo "AttrError") rfl)
  have aei := fx_aei_ok (c.fx 3 (f := fx_aei "AttrError") rfl)
  exact ⟨fd, F, exi2 F sc_NoRows___init__ oe_NoRows.oc no_NoRows_part no_NoRows_index fun cdv A outer s H E hr => pss_cons (ps_expr (pe_aeinit rfl gg_AttrError aei (pa_cons (pv 0) (pa_cons pe_str pa_nil)))) (pss_cons (ps_ost (pv 0) (pv 1)) (pss_one (ps_ost (pv 0) (pv 2))))⟩
theorem ok_check_sizes {P : Program} {w : World} {K : PySem.W.Frag} {mg : Str → Option Value} {base h : Heap} (X : K.In h) (G : h.Ns mainGlobals mg) (c : SaysX fx fa fn K) :
    ∃ fd, FunD K "check_sizes" "check_sizes" (defArgs s_check_sizes) (defBody s_check_sizes) (defScope s_check_sizes) [] [] (He.fAd K ("check_sizes", none)) fd ∧ FnOk P w K mg base (L2.CX P w) 3 (He.fAd K ("check_sizes", none)) fd N_check_sizes_ps (spM K (cl K) 2 m_check_sizes) := by
  obtain ⟨fd, F⟩ := c.d.def_ 17 (d := d_check_sizes) rfl
  obtain ⟨fd_is_from, F_is_from, O_is_from⟩ := ok_is_from (P := P) (w := w) (base := base) X G c
  have gg_is_from : mg "is_from" = some (.ref (He.fAd K ("is_from", none))) := He.glo_ok X G (c.d.fact 30 (f := .glo "is_from") rfl)
  have B_is_from : Binds K fd_is_from N_is_from_ps [] := F_is_from.bindsN fun _ _ _ _ _ _ us hl => match us, hl with | [_, _, _], _ => rfl
  obtain ⟨_, g_MAX_WIDTH⟩ := He.int_ok X G (c.d.fact 31 (f := .int "MAX_WIDTH" (64)) rfl)
  obtain ⟨fd_NoRows___init__, F_NoRows___init__, O_NoRows___init__⟩ := ok_NoRows___init__ (P := P) (w := w) (base := base) X G c
  have B_NoRows___init__ : Binds K fd_NoRows___init__ N_NoRows___init___ps [] := F_NoRows___init__.bindsN fun _ _ _ _ _ _ us hl => match us, hl with | [_, _, _], _ => rfl
  have oe_NoRows := fx_oex_ok (c.fx 0 (f := fx_oex "NoRows") rfl)
  have gg_NoRows : mg "NoRows" = some (.ref (He.ga K "NoRows")) := He.glo_ok X G (c.d.fact 33 (f := .glo "NoRows") rfl)
  obtain ⟨fd_is_int, F_is_int, O_is_int⟩ := ok_is_int (P := P) (w := w) (base := base) X G c
  have gg_is_int : mg "is_int" = some (.ref (He.fAd K ("is_int", none))) := He.glo_ok X G (c.d.fact 29 (f := .glo "is_int") rfl)
  have B_is_int : Binds K fd_is_int N_is_int_ps [] := F_is_int.bindsN fun _ _ _ _ _ _ us hl => match us, hl with | [_], _ => rfl
  exact ⟨fd, F, fn_ok F sc_check_sizes (b := b_check_sizes) <| fun cdv A outer s H E hr => by
    have hu := L2.hu_of hr
    exact (ds_cons (ds_if (dt_not (dt_val (d_call O_is_from (hr.mono (by decide)) rfl gg_is_from F_is_from.kp B_is_from passB (da_cons (de_var (pv 0)) (da_cons de_int (da_cons (de_c (v := .int 64) (pe_glob rfl g_MAX_WIDTH ⟨_, rfl⟩) fun _ _ _ => .int _) da_nil))) (lenA_cons (lenA_cons (lenA_cons lenA_nil))))))
  (ds_one (ds_raise2 (cl := cl K) (c := 1) rfl (takes_of rfl rfl rfl rfl) oe_NoRows O_NoRows___init__ (hr.mono (by decide)) B_NoRows___init__ rfl gg_NoRows (da_cons de_str (da_cons (de_un un_neg s_neg (sl de_int)) da_nil)) (lenA_cons (lenA_cons lenA_nil))))
  ds_nil)
  (ds_one (ds_if (PW.pt (dw_or (dt_not (dt_val (d_call O_is_int (hr.mono (by decide)) rfl gg_is_int F_is_int.kp B_is_int passB (da_cons (de_var (pv 1)) da_nil) (lenA_cons lenA_nil)))) (dw_or1 (dt_cmp op_lt (s_cmp _) (sl (de_var (pv 1))) (sl de_int) (nomark _)))))
  (ds_one (ds_raise2 (cl := cl K) (c := 1) rfl (takes_of rfl rfl rfl rfl) oe_NoRows O_NoRows___init__ (hr.mono (by decide)) B_NoRows___init__ rfl gg_NoRows (da_cons de_str (da_cons (de_un un_neg s_neg (sl de_int)) da_nil)) (lenA_cons (lenA_cons lenA_nil))))
  ds_nil)))⟩
theorem ok_are_many_ints {P : Program} {w : World} {K : PySem.W.Frag} {mg : Str → Option Value} {base h : Heap} (X : K.In h) (G : h.Ns mainGlobals mg) (c : SaysX fx fa fn K) :
    ∃ fd, FunD K "are_many_ints" "are_many_ints" (defArgs s_are_many_ints) (defBody s_are_many_ints) (defScope s_are_many_ints) [] [] (He.fAd K ("are_many_ints", none)) fd ∧ FnOk P w K mg base (L2.CX P w) 2 (He.fAd K ("are_many_ints", none)) fd N_are_many_ints_ps (spM K (cl K) 2 m_are_many_ints) := by
  obtain ⟨fd, F⟩ := c.d.def_ 18 (d := d_are_many_ints) rfl
  have g_all : mg "all" = none := He.free_ok X G (c.d.fact 35 (f := .free "all") rfl)
  obtain ⟨fd_is_int, F_is_int, O_is_int⟩ := ok_is_int (P := P) (w := w) (base := base) X G c
  have gg_is_int : mg "is_int" = some (.ref (He.fAd K ("is_int", none))) := He.glo_ok X G (c.d.fact 29 (f := .glo "is_int") rfl)
  have B_is_int : Binds K fd_is_int N_is_int_ps [] := F_is_int.bindsN fun _ _ _ _ _ _ us hl => match us, hl with | [_], _ => rfl
  have g_len : mg "len" = none := He.free_ok X G (c.d.fact 3 (f := .free "len") rfl)
  have g_isinstance : mg "isinstance" = none := He.free_ok X G (c.d.fact 27 (f := .free "isinstance") rfl)
  have g_list : mg "list" = none := He.free_ok X G (c.d.fact 8 (f := .free "list") rfl)
  have g_tuple : mg "tuple" = none := He.free_ok X G (c.d.fact 7 (f := .free "tuple") rfl)
  exact ⟨fd, F, fn_ok F sc_are_many_ints (b := b_are_many_ints) <| fun cdv A outer s H E hr => by
    have hu := L2.hu_of hr
    exact (ds_one (ds_ret (de_and (de_isi2 (t := .lst) (t2 := .tup) (sl (de_var (pv 0))) (pe_bltn rfl g_list b_list rfl) (pe_bltn rfl g_tuple b_tuple rfl) rfl g_isinstance b_isinstance) (de_and (de_cmp (op_eqD hr.units) s_eq (sl (de_callB o_len s_len rfl g_len b_len (la_cons (sl (de_var (pv 0))) la_nil))) (sl (de_var (pv 1))) (nomark _)) (de_one (de_callB (cr_all rfl) s_all rfl g_all b_all (la_cons (nl (dn_lc (own := [("number", 2)]) rfl sc_are_many_ints.nd (di_seqL (sl (de_var (pv 0)))) (blkOk_by (own := [("number", 2)]) (by kernel_rfl)) (fun _ _ _ _ _ => (pg_name sc_are_many_ints.nd rfl (Or.inl rfl))) (tg_name 2) (fun _ _ _ _ _ => pts_nil) (fun _ _ _ z => yes_t z) (fun _ _ _ _ _ => (d_call O_is_int (hr.mono (by decide)) rfl gg_is_int F_is_int.kp B_is_int passL (da_cons (de_var (pv 2)) da_nil) (lenA_cons lenA_nil))))) la_nil)))))))⟩
theorem ok_reduced_rows {P : Program} {w : World} {K : PySem.W.Frag} {mg : Str → Option Value} {base h : Heap} (X : K.In h) (G : h.Ns mainGlobals mg) (c : SaysX fx fa fn K) :
    ∃ fd, FunD K "reduced_rows" "reduced_rows" (defArgs s_reduced_rows) (defBody s_reduced_rows) (defScope s_reduced_rows) [] [] (He.fAd K ("reduced_rows", none)) fd ∧ FnOk P w K mg base (L2.CX P w) 4 (He.fAd K ("reduced_rows", none)) fd N_reduced_rows_ps (spM K (cl K) 4 m_reduced_rows) := by
  obtain ⟨fd, F⟩ := c.d.def_ 19 (d := d_reduced_rows) rfl
  obtain ⟨fd_check_sizes, F_check_sizes, O_check_sizes⟩ := ok_check_sizes (P := P) (w := w) (base := base) X G c
  have gg_check_sizes : mg "check_sizes" = some (.ref (He.fAd K ("check_sizes", none))) := He.glo_ok X G (c.d.fact 34 (f := .glo "check_sizes") rfl)
  have B_check_sizes : Binds K fd_check_sizes N_check_sizes_ps [] := F_check_sizes.bindsN fun _ _ _ _ _ _ us hl => match us, hl with | [_, _], _ => rfl
  have g_isinstance : mg "isinstance" = none := He.free_ok X G (c.d.fact 27 (f := .free "isinstance") rfl)
  have g_list : mg "list" = none := He.free_ok X G (c.d.fact 8 (f := .free "list") rfl)
  have g_tuple : mg "tuple" = none := He.free_ok X G (c.d.fact 7 (f := .free "tuple") rfl)
  obtain ⟨fd_NoRows___init__, F_NoRows___init__, O_NoRows___init__⟩ := ok_NoRows___init__ (P := P) (w := w) (base := base) X G c
  have B_NoRows___init__ : Binds K fd_NoRows___init__ N_NoRows___init___ps [] := F_NoRows___init__.bindsN fun _ _ _ _ _ _ us hl => match us, hl with | [_, _, _], _ => rfl
  have oe_NoRows := fx_oex_ok (c.fx 0 (f := fx_oex "NoRows") rfl)
  have gg_NoRows : mg "NoRows" = some (.ref (He.ga K "NoRows")) := He.glo_ok X G (c.d.fact 33 (f := .glo "NoRows") rfl)
  have g_enumerate : mg "enumerate" = none := He.free_ok X G (c.d.fact 0 (f := .free "enumerate") rfl)
  obtain ⟨fd_are_many_ints, F_are_many_ints, O_are_many_ints⟩ := ok_are_many_ints (P := P) (w := w) (base := base) X G c
  have gg_are_many_ints : mg "are_many_ints" = some (.ref (He.fAd K ("are_many_ints", none))) := He.glo_ok X G (c.d.fact 36 (f := .glo "are_many_ints") rfl)
  have B_are_many_ints : Binds K fd_are_many_ints N_are_many_ints_ps [] := F_are_many_ints.bindsN fun _ _ _ _ _ _ us hl => match us, hl with | [_, _], _ => rfl
  have g_int : mg "int" = none := He.free_ok X G (c.d.fact 1 (f := .free "int") rfl)
  exact ⟨fd, F, fn_ok F sc_reduced_rows (b := b_reduced_rows) <| fun cdv A outer s H E hr => by
    have hu := L2.hu_of hr
    exact (ds_cons (ds_expr (ps_expr (d_call O_check_sizes (hr.mono (by decide)) rfl gg_check_sizes F_check_sizes.kp B_check_sizes passB (da_cons (de_var (pv 0)) (da_cons (de_var (pv 1)) da_nil)) (lenA_cons (lenA_cons lenA_nil)))) (fun _ _ _ z => z))
  (ds_cons (ds_if (dt_not (dt_val (de_isi2 (t := .lst) (t2 := .tup) (sl (de_var (pv 2))) (pe_bltn rfl g_list b_list rfl) (pe_bltn rfl g_tuple b_tuple rfl) rfl g_isinstance b_isinstance)))
  (ds_one (ds_raise2 (cl := cl K) (c := 1) rfl (takes_of rfl rfl rfl rfl) oe_NoRows O_NoRows___init__ (hr.mono (by decide)) B_NoRows___init__ rfl gg_NoRows (da_cons (de_var (pv 3)) (da_cons (de_un un_neg s_neg (sl de_int)) da_nil)) (lenA_cons (lenA_cons lenA_nil))))
  ds_nil)
  (ds_cons (ds_for passO rfl (di_en rfl g_enumerate (da_cons (de_var (pv 2)) da_nil)) (pg_tup rfl (pgs_cons (pg_name sc_reduced_rows.nd rfl (Or.inl rfl)) (pgs_cons (pg_name sc_reduced_rows.nd rfl (Or.inl rfl)) pgs_nil))) (tg_tup (tgs_cons (tg_name 4) (tgs_cons (tg_name 5) tgs_nil)) (tfl_cons (tfl_cons tfl_nil)))
  (ds_one (ds_if (dt_not (dt_val (d_call O_are_many_ints (hr.mono (by decide)) rfl gg_are_many_ints F_are_many_ints.kp B_are_many_ints passB (da_cons (de_var (pv 5)) (da_cons (de_var (pv 1)) da_nil)) (lenA_cons (lenA_cons lenA_nil)))))
  (ds_one (ds_raise2 (cl := cl K) (c := 1) rfl (takes_of rfl rfl rfl rfl) oe_NoRows O_NoRows___init__ (hr.mono (by decide)) B_NoRows___init__ rfl gg_NoRows (da_cons (de_var (pv 3)) (da_cons (de_var (pv 4)) da_nil)) (lenA_cons (lenA_cons lenA_nil))))
  ds_nil)))
  (ds_one (ds_ret (ns (dn_lc (own := [("row", 5)]) rfl sc_reduced_rows.nd (di_seqL (sl (de_var (pv 2)))) (blkOk_by (own := [("row", 5)]) (by kernel_rfl)) (fun _ _ _ _ _ => (pg_name sc_reduced_rows.nd rfl (Or.inl rfl))) (tg_name 5) (fun _ _ _ _ _ => pts_nil) (fun _ _ _ z => yes_t z) (fun _ _ _ _ _ => (de_callTy call_tuple_of s_tup rfl g_tuple b_tuple (la_cons (nl (dn_lc (own := [("number", 6)]) rfl sc_reduced_rows.nd (di_seqL (sl (de_var (pv 5)))) (blkOk_by (own := [("number", 6)]) (by kernel_rfl)) (fun _ _ _ _ _ => (pg_name sc_reduced_rows.nd rfl (Or.inl rfl))) (tg_name 6) (fun _ _ _ _ _ => pts_nil) (fun _ _ _ z => yes_t z) (fun _ _ _ _ _ => (de_op op_mod s_mod (sl (de_callTy call_int1 s_int rfl g_int b_int (la_cons (sl (de_var (pv 6))) la_nil))) (sl (de_op op_shl s_shl (sl de_int) (sl (de_var (pv 0))))))))) la_nil))))))))))⟩
theorem ok_echelon {P : Program} {w : World} {K : PySem.W.Frag} {mg : Str → Option Value} {base h : Heap} (X : K.In h) (G : h.Ns mainGlobals mg) (c : SaysX fx fa fn K) :
    ∃ fd, FunD K "echelon" "echelon" (defArgs s_echelon) (defBody s_echelon) (defScope s_echelon) [] [] (He.fAd K ("echelon", none)) fd ∧ FnOk P w K mg base (L2.CX P w) 5 (He.fAd K ("echelon", none)) fd N_echelon_ps (spM K (cl K) 3 m_echelon) := by
  obtain ⟨fd, F⟩ := c.d.def_ 20 (d := d_echelon) rfl
  obtain ⟨fd_Stair_tidied, F_Stair_tidied, O_Stair_tidied⟩ := ok_Stair_tidied (P := P) (w := w) (base := base) X G c
  have B_Stair_tidied : Binds K fd_Stair_tidied N_Stair_tidied_ps [] := F_Stair_tidied.bindsN fun _ _ _ _ _ _ us hl => match us, hl with | [_], _ => rfl
  have cls_Stair : Cls K (He.ga K "Stair") := He.cls_ok (c.d.fact 12 (f := .cls "Stair") rfl)
  have mt_Stair_tidied : Meth K (He.ga K "Stair") "tidied" (He.fAd K ("Stair", some "tidied")) := He.meth_ok (c.d.fact 17 (f := .meth "Stair" "tidied") rfl)
  obtain ⟨fd_stair_of, F_stair_of, O_stair_of⟩ := ok_stair_of (P := P) (w := w) (base := base) X G c
  have gg_stair_of : mg "stair_of" = some (.ref (He.fAd K ("stair_of", none))) := He.glo_ok X G (c.d.fact 26 (f := .glo "stair_of") rfl)
  have B_stair_of : Binds K fd_stair_of N_stair_of_ps [] := F_stair_of.bindsN fun _ _ _ _ _ _ us hl => match us, hl with | [_, _, _], _ => rfl
  obtain ⟨fd_reduced_rows, F_reduced_rows, O_reduced_rows⟩ := ok_reduced_rows (P := P) (w := w) (base := base) X G c
  have gg_reduced_rows : mg "reduced_rows" = some (.ref (He.fAd K ("reduced_rows", none))) := He.glo_ok X G (c.d.fact 37 (f := .glo "reduced_rows") rfl)
  have B_reduced_rows : Binds K fd_reduced_rows N_reduced_rows_ps [] := F_reduced_rows.bindsN fun _ _ _ _ _ _ us hl => match us, hl with | [_, _, _, _], _ => rfl
  exact ⟨fd, F, fn_ok F sc_echelon (b := b_echelon) <| fun cdv A outer s H E hr => by
    have hu := L2.hu_of hr
    exact (ds_one (ds_ret (d_meth0 (cl := cl K) (c := 0) (d_call O_stair_of (hr.mono (by decide)) rfl gg_stair_of F_stair_of.kp B_stair_of passB (da_cons (de_var (pv 0)) (da_cons (de_var (pv 1)) (da_cons (d_call O_reduced_rows (hr.mono (by decide)) rfl gg_reduced_rows F_reduced_rows.kp B_reduced_rows passB (da_cons (de_var (pv 0)) (da_cons (de_var (pv 1)) (da_cons (de_var (pv 2)) (da_cons de_str da_nil)))) (lenA_cons (lenA_cons (lenA_cons (lenA_cons lenA_nil))))) da_nil))) (lenA_cons (lenA_cons (lenA_cons lenA_nil)))) cls_Stair mt_Stair_tidied O_Stair_tidied (hr.mono (by decide)) B_Stair_tidied passB)))⟩
theorem ok__law_elements {P : Program} {w : World} {K : PySem.W.Frag} {mg : Str → Option Value} {base h : Heap} (X : K.In h) (G : h.Ns mainGlobals mg) (c : SaysX fx fa fn K) :
    ∃ fd, FunD K "_law_elements" "_law_elements" (defArgs s__law_elements) (defBody s__law_elements) (defScope s__law_elements) [] [] (He.fAd K ("_law_elements", none)) fd ∧ FnOk P w K mg base (L2.CX P w) 1 (He.fAd K ("_law_elements", none)) fd N__law_elements_ps (spM K (cl K) 3 m__law_elements) := by
  obtain ⟨fd, F⟩ := c.d.def_ 21 (d := d__law_elements) rfl
  have g_range : mg "range" = none := He.free_ok X G (c.d.fact 5 (f := .free "range") rfl)
  have g_list : mg "list" = none := He.free_ok X G (c.d.fact 8 (f := .free "list") rfl)
  have g_tuple : mg "tuple" = none := He.free_ok X G (c.d.fact 7 (f := .free "tuple") rfl)
  have g_zip : mg "zip" = none := He.free_ok X G (c.d.fact 14 (f := .free "zip") rfl)
  have g_int : mg "int" = none := He.free_ok X G (c.d.fact 1 (f := .free "int") rfl)
  exact ⟨fd, F, fn_ok F sc__law_elements (b := b__law_elements) <| fun cdv A outer s H E hr => by
    have hu := L2.hu_of hr
    exact (ds_cons (ds_own (ps_set sc__law_elements.nd rfl (Or.inl rfl) (dn_dt1 hu (de_op o_mulT s_mulT (sl (de_tup (da_cons de_int da_nil) (lenA_cons lenA_nil))) (sl (de_var (pv 1)))) de_bl)) (fun _ _ _ z => z))
  (ds_cons (ds_for passO rfl (di_seq (de_var (pv 2))) (pg_name sc__law_elements.nd rfl (Or.inl rfl)) (tg_name 4)
  (ds_one (ds_for passO rfl (di_rng1 rfl g_range (da_cons (de_op op_shl s_shl (sl de_int) (sl (de_var (pv 0)))) da_nil) (lenA_cons lenA_nil)) (pg_name sc__law_elements.nd rfl (Or.inr rfl)) (tg_name 5)
  (ds_one (ds_for passO rfl (di_seq (ns (dn_callTy (call_listT rfl) s_listT rfl g_list b_list (la_cons (de_varL (pv 3)) la_nil)))) (pg_name sc__law_elements.nd rfl (Or.inl rfl)) (tg_name 6)
  (ds_one (ds_setDT (ps_asg de_bl (pg_sub (pv 3) (de_callTy call_tuple_of s_tup rfl g_tuple b_tuple (la_cons (nl (dn_lc (own := [("_law_a", 7), ("_law_b", 8)]) rfl sc__law_elements.nd (di_zpL rfl g_zip (la_cons (sl (de_var (pv 6))) (la_cons (sl (de_var (pv 4))) la_nil))) (blkOk_by (own := [("_law_a", 7), ("_law_b", 8)]) (by kernel_rfl)) (fun _ _ _ _ _ => (pg_tup rfl (pgs_cons (pg_name sc__law_elements.nd rfl (Or.inl rfl)) (pgs_cons (pg_name sc__law_elements.nd rfl (Or.inl rfl)) pgs_nil)))) (tg_tup (tgs_cons (tg_name 7) (tgs_cons (tg_name 8) tgs_nil)) (tfl_cons (tfl_cons tfl_nil))) (fun _ _ _ _ _ => pts_nil) (fun _ _ _ z => yes_t z) (fun _ _ _ _ _ => (de_op op_mod s_mod (sl (de_callTy call_int1 s_int rfl g_int b_int (la_cons (sl (de_op o_add s_add (sl (de_var (pv 7))) (sl (de_op o_mul s_mul (sl (de_var (pv 5))) (sl (de_var (pv 8))))))) la_nil))) (sl (de_op op_shl s_shl (sl de_int) (sl (de_var (pv 0))))))))) la_nil)) (set_dict hu))) (fun _ _ _ z => z) (fun _ _ _ z => z))))))))
  (ds_shr (ds_one (ds_ret (de_var (pv 3)))))))⟩
theorem ok__law_steps_right {P : Program} {w : World} {K : PySem.W.Frag} {mg : Str → Option Value} {base h : Heap} (X : K.In h) (G : h.Ns mainGlobals mg) (c : SaysX fx fa fn K) :
    ∃ fd, FunD K "_law_steps_right" "_law_steps_right" (defArgs s__law_steps_right) (defBody s__law_steps_right) (defScope s__law_steps_right) [] [] (He.fAd K ("_law_steps_right", none)) fd ∧ FnOk P w K mg base (L2.CX P w) 1 (He.fAd K ("_law_steps_right", none)) fd N__law_steps_right_ps (spM K (cl K) 3 m__law_steps_right) := by
  obtain ⟨fd, F⟩ := c.d.def_ 22 (d := d__law_steps_right) rfl
  have g_enumerate : mg "enumerate" = none := He.free_ok X G (c.d.fact 0 (f := .free "enumerate") rfl)
  have g_isinstance : mg "isinstance" = none := He.free_ok X G (c.d.fact 27 (f := .free "isinstance") rfl)
  have g_tuple : mg "tuple" = none := He.free_ok X G (c.d.fact 7 (f := .free "tuple") rfl)
  have g_range : mg "range" = none := He.free_ok X G (c.d.fact 5 (f := .free "range") rfl)
  exact ⟨fd, F, fn_ok F sc__law_steps_right (b := b__law_steps_right) <| fun cdv A outer s H E hr => by
    have hu := L2.hu_of hr
    exact (ds_cons (ds_set (ps_set sc__law_steps_right.nd rfl (Or.inr rfl) (de_un un_neg s_neg (sl de_int))) (fun _ _ _ z => z))
  (ds_cons (ds_for passO rfl (di_en rfl g_enumerate (da_cons (de_var (pv 2)) da_nil)) (pg_tup rfl (pgs_cons (pg_name sc__law_steps_right.nd rfl (Or.inl rfl)) (pgs_cons (pg_name sc__law_steps_right.nd rfl (Or.inr rfl)) pgs_nil))) (tg_tup (tgs_cons (tg_name 4) (tgs_cons (tg_name 5) tgs_nil)) (tfl_cons (tfl_cons tfl_nil)))
  (ds_cons (ds_if (PW.pt (dw_or (dt_not (dt_val (de_isi1 (t := .tup) (sl (de_var (pv 5))) (pe_bltn rfl g_tuple b_tuple rfl) rfl g_isinstance b_isinstance))) (dw_or1 (dt_cmp (op_neD hr.units) s_ne (nl (dn_lc (own := [("_law_one", 8)]) rfl sc__law_steps_right.nd (di_seqL (sl (de_var (pv 5)))) (blkOk_by (own := [("_law_one", 8)]) (by kernel_rfl)) (fun _ _ _ _ _ => (pg_name sc__law_steps_right.nd rfl (Or.inl rfl))) (tg_name 8) (fun _ _ _ _ _ => pts_one (dt_not (dt_ch op_le op_lt (s_cmp _) (s_cmp _) (sl de_int) (sl (de_var (pv 8))) (sl (de_op op_shl s_shl (sl de_int) (sl (de_var (pv 0)))))))) (fun _ _ _ z => z) (fun _ _ _ _ _ => (de_var (pv 8))))) (nl (dn_lst da_nil lenA_nil)) (nomark _)))))
  (ds_one (ds_ret de_bl))
  ds_nil)
  (ds_cons (ds_set (lc_set (own := [("_law_at", 7), ("_law_one", 8)]) rfl sc__law_steps_right.nd rfl rfl rfl (di_enL rfl g_enumerate (la_cons (sl (de_var (pv 5))) la_nil)) (blkOk_by (own := [("_law_at", 7), ("_law_one", 8)]) (by kernel_rfl)) (fun _ _ _ _ _ => (pg_tup rfl (pgs_cons (pg_name sc__law_steps_right.nd rfl (Or.inl rfl)) (pgs_cons (pg_name sc__law_steps_right.nd rfl (Or.inl rfl)) pgs_nil)))) (tg_tup (tgs_cons (tg_name 7) (tgs_cons (tg_name 8) tgs_nil)) (tfl_cons (tfl_cons tfl_nil))) (fun _ _ _ _ _ => pts_one (dt_cmp (op_neD hr.units) s_ne (sl (de_var (pv 8))) (sl de_int) (nomark _))) (fun _ _ _ z => z) (fun _ _ _ _ _ => (de_var (pv 7)))) (fun _ _ _ z => t_dn z))
  (ds_cons (ds_if (PW.pt (dw_or (dt_cmp (op_eqD hr.units) s_eq (sl (de_var (pv 6))) (nl (dn_lst da_nil lenA_nil)) (nomark _)) (dw_or (dt_cmp op_le (s_cmp _) (sl (de_ix (o_ix hu) s_ix (sl (de_var (pv 6))) (sl de_int) (fun _ _ => rfl))) (sl (de_var (pv 3))) (nomark _)) (dw_or1 (dt_cmp (o_notIn hu) s_notIn (sl (de_ix (o_ix hu) s_ix (sl (de_var (pv 5))) (sl (de_ix (o_ix hu) s_ix (sl (de_var (pv 6))) (sl de_int) (fun _ _ => rfl))) (fun _ _ => rfl))) (nl (dn_lc (own := [("_law_at", 7)]) rfl sc__law_steps_right.nd (di_rng1 rfl g_range (da_cons (de_var (pv 0)) da_nil) (lenA_cons lenA_nil)) (blkOk_by (own := [("_law_at", 7)]) (by kernel_rfl)) (fun _ _ _ _ _ => (pg_name sc__law_steps_right.nd rfl (Or.inl rfl))) (tg_name 7) (fun _ _ _ _ _ => pts_nil) (fun _ _ _ z => yes_t z) (fun _ _ _ _ _ => (de_op op_shl s_shl (sl de_int) (sl (de_var (pv 7))))))) rfl)))))
  (ds_one (ds_ret de_bl))
  ds_nil)
  (ds_cons (ds_set (ps_set sc__law_steps_right.nd rfl (Or.inr rfl) (de_ix (o_ix hu) s_ix (sl (de_var (pv 6))) (sl de_int) (fun _ _ => rfl))) (fun _ _ _ z => z))
  (ds_one (ds_if (dt_cmp (op_neD hr.units) s_ne (nl (dn_lc (own := [("_law_before", 9)]) rfl sc__law_steps_right.nd (di_seqL (sl (de_sl (sl (de_var (pv 2))) do_none (do_some (de_var (pv 4)))))) (blkOk_by (own := [("_law_before", 9)]) (by kernel_rfl)) (fun _ _ _ _ _ => (pg_name sc__law_steps_right.nd rfl (Or.inl rfl))) (tg_name 9) (fun _ _ _ _ _ => pts_one (dt_cmp op_ge (s_cmp _) (sl (de_ix (o_ix hu) s_ix (sl (de_var (pv 9))) (sl (de_var (pv 3))) (fun _ _ => rfl))) (sl (de_ix (o_ix hu) s_ix (sl (de_var (pv 5))) (sl (de_var (pv 3))) (fun _ _ => rfl))) (nomark _))) (fun _ _ _ z => z) (fun _ _ _ _ _ => (de_var (pv 9))))) (nl (dn_lst da_nil lenA_nil)) (nomark _))
  (ds_one (ds_ret de_bl))
  ds_nil)))))))
  (ds_one (ds_ret de_bl))))⟩
theorem ok_count {P : Program} {w : World} {K : PySem.W.Frag} {mg : Str → Option Value} {base h : Heap} (X : K.In h) (G : h.Ns mainGlobals mg) (c : SaysX fx fa fn K) :
    ∃ fd, FunD K "count" "count" (defArgs s_count) (defBody s_count) (defScope s_count) [] [] (He.fAd K ("count", none)) fd ∧ FnOk P w K mg base (L2.CX P w) 5 (He.fAd K ("count", none)) fd N_count_ps (spM K (cl K) 3 m_count) := by
  obtain ⟨fd, F⟩ := c.d.def_ 23 (d := d_count) rfl
  obtain ⟨fd_stair_of, F_stair_of, O_stair_of⟩ := ok_stair_of (P := P) (w := w) (base := base) X G c
  have gg_stair_of : mg "stair_of" = some (.ref (He.fAd K ("stair_of", none))) := He.glo_ok X G (c.d.fact 26 (f := .glo "stair_of") rfl)
  have B_stair_of : Binds K fd_stair_of N_stair_of_ps [] := F_stair_of.bindsN fun _ _ _ _ _ _ us hl => match us, hl with | [_, _, _], _ => rfl
  obtain ⟨fd_reduced_rows, F_reduced_rows, O_reduced_rows⟩ := ok_reduced_rows (P := P) (w := w) (base := base) X G c
  have gg_reduced_rows : mg "reduced_rows" = some (.ref (He.fAd K ("reduced_rows", none))) := He.glo_ok X G (c.d.fact 37 (f := .glo "reduced_rows") rfl)
  have B_reduced_rows : Binds K fd_reduced_rows N_reduced_rows_ps [] := F_reduced_rows.bindsN fun _ _ _ _ _ _ us hl => match us, hl with | [_, _, _, _], _ => rfl
  have cls_Stair : Cls K (He.ga K "Stair") := He.cls_ok (c.d.fact 12 (f := .cls "Stair") rfl)
  have noat_Stair_pivots : NoAttr K (He.ga K "Stair") "pivots" := He.noat_ok (c.d.fact 13 (f := .noat "Stair" "pivots") rfl)
  exact ⟨fd, F, fn_ok F sc_count (b := b_count) <| fun cdv A outer s H E hr => by
    have hu := L2.hu_of hr
    exact (ds_cons (ds_set (ps_set sc_count.nd rfl (Or.inl rfl) de_int) (fun _ _ _ z => z))
  (ds_cons (ds_for passO rfl (di_items (de_popZ (de_fld (cl := cl K) (c := 0) (sl (d_call O_stair_of (hr.mono (by decide)) rfl gg_stair_of F_stair_of.kp B_stair_of passB (da_cons (de_var (pv 0)) (da_cons (de_var (pv 1)) (da_cons (d_call O_reduced_rows (hr.mono (by decide)) rfl gg_reduced_rows F_reduced_rows.kp B_reduced_rows passB (da_cons (de_var (pv 0)) (da_cons (de_var (pv 1)) (da_cons (de_var (pv 2)) (da_cons de_str da_nil)))) (lenA_cons (lenA_cons (lenA_cons (lenA_cons lenA_nil))))) da_nil))) (lenA_cons (lenA_cons (lenA_cons lenA_nil))))) cls_Stair noat_Stair_pivots rfl))) (pg_tup rfl (pgs_cons (pg_name sc_count.nd rfl (Or.inl rfl)) (pgs_cons (pg_name sc_count.nd rfl (Or.inl rfl)) pgs_nil))) (tg_tup (tgs_cons (tg_name 4) (tgs_cons (tg_name 5) tgs_nil)) (tfl_cons (tfl_cons tfl_nil)))
  (ds_one (ds_set (ps_set sc_count.nd rfl (Or.inl rfl) (de_op o_mul s_mul (sl (de_var (pv 3))) (sl (de_op op_fdivW s_fdiv (sl (de_op op_shl s_shl (sl de_int) (sl (de_var (pv 0))))) (sl (de_ix (o_ix hu) s_ix (sl (de_var (pv 5))) (sl (de_var (pv 4))) (fun _ _ => rfl))))))) (fun _ _ _ z => z))))
  (ds_one (ds_ret (de_var (pv 3))))))⟩
theorem ok__law_right {P : Program} {w : World} {K : PySem.W.Frag} {mg : Str → Option Value} {base h : Heap} (X : K.In h) (G : h.Ns mainGlobals mg) (c : SaysX fx fa fn K) :
    ∃ fd, FunD K "_law_right" "_law_right" (defArgs s__law_right) (defBody s__law_right) (defScope s__law_right) [] [] (He.fAd K ("_law_right", none)) fd ∧ FnOk P w K mg base (L2.CX P w) 6 (He.fAd K ("_law_right", none)) fd N__law_right_ps (spM K (cl K) 1 m__law_right) := by
  obtain ⟨fd, F⟩ := c.d.def_ 24 (d := d__law_right) rfl
  obtain ⟨fd__law_small, F__law_small, O__law_small⟩ := ok__law_small (P := P) (w := w) (base := base) X G c
  have gg__law_small : mg "_law_small" = some (.ref (He.fAd K ("_law_small", none))) := He.glo_ok X G (c.d.fact 10 (f := .glo "_law_small") rfl)
  have B__law_small : Binds K fd__law_small N__law_small_ps [] := F__law_small.bindsN fun _ _ _ _ _ _ us hl => match us, hl with | [_], _ => rfl
  obtain ⟨fd_echelon, F_echelon, O_echelon⟩ := ok_echelon (P := P) (w := w) (base := base) X G c
  have gg_echelon : mg "echelon" = some (.ref (He.fAd K ("echelon", none))) := He.glo_ok X G (c.d.fact 38 (f := .glo "echelon") rfl)
  have B_echelon : Binds K fd_echelon N_echelon_ps [] := F_echelon.bindsN fun _ _ _ _ _ _ us hl => match us, hl with | [_, _, _], _ => rfl
  obtain ⟨fd__law_elements, F__law_elements, O__law_elements⟩ := ok__law_elements (P := P) (w := w) (base := base) X G c
  have gg__law_elements : mg "_law_elements" = some (.ref (He.fAd K ("_law_elements", none))) := He.glo_ok X G (c.d.fact 39 (f := .glo "_law_elements") rfl)
  have B__law_elements : Binds K fd__law_elements N__law_elements_ps [] := F__law_elements.bindsN fun _ _ _ _ _ _ us hl => match us, hl with | [_, _, _], _ => rfl
  obtain ⟨fd__law_steps_right, F__law_steps_right, O__law_steps_right⟩ := ok__law_steps_right (P := P) (w := w) (base := base) X G c
  have gg__law_steps_right : mg "_law_steps_right" = some (.ref (He.fAd K ("_law_steps_right", none))) := He.glo_ok X G (c.d.fact 40 (f := .glo "_law_steps_right") rfl)
  have B__law_steps_right : Binds K fd__law_steps_right N__law_steps_right_ps [] := F__law_steps_right.bindsN fun _ _ _ _ _ _ us hl => match us, hl with | [_, _, _], _ => rfl
  have g_isinstance : mg "isinstance" = none := He.free_ok X G (c.d.fact 27 (f := .free "isinstance") rfl)
  have g_list : mg "list" = none := He.free_ok X G (c.d.fact 8 (f := .free "list") rfl)
  have g_range : mg "range" = none := He.free_ok X G (c.d.fact 5 (f := .free "range") rfl)
  have g_any : mg "any" = none := He.free_ok X G (c.d.fact 41 (f := .free "any") rfl)
  have g_sorted : mg "sorted" = none := He.free_ok X G (c.d.fact 11 (f := .free "sorted") rfl)
  obtain ⟨fd_count, F_count, O_count⟩ := ok_count (P := P) (w := w) (base := base) X G c
  have gg_count : mg "count" = some (.ref (He.fAd K ("count", none))) := He.glo_ok X G (c.d.fact 42 (f := .glo "count") rfl)
  have B_count : Binds K fd_count N_count_ps [] := F_count.bindsN fun _ _ _ _ _ _ us hl => match us, hl with | [_, _, _], _ => rfl
  have g_len : mg "len" = none := He.free_ok X G (c.d.fact 3 (f := .free "len") rfl)
  obtain ⟨fd__law_pick, F__law_pick, O__law_pick⟩ := ok__law_pick (P := P) (w := w) (base := base) X G c
  have gg__law_pick : mg "_law_pick" = some (.ref (He.fAd K ("_law_pick", none))) := He.glo_ok X G (c.d.fact 4 (f := .glo "_law_pick") rfl)
  have B__law_pick : Binds K fd__law_pick N__law_pick_ps [] := F__law_pick.bindsN fun _ _ _ _ _ _ us hl => match us, hl with | [_, _], _ => rfl
  have g_tuple : mg "tuple" = none := He.free_ok X G (c.d.fact 7 (f := .free "tuple") rfl)
  exact ⟨fd, F, fn_ok F sc__law_right (b := b__law_right) <| fun cdv A outer s H E hr => by
    have hu := L2.hu_of hr
    exact (ds_cons (ds_unp (ps_asg (d_call O__law_small (hr.mono (by decide)) rfl gg__law_small F__law_small.kp B__law_small passB (da_cons (de_var (pv 0)) da_nil) (lenA_cons lenA_nil)) (pg_tup rfl (pgs_cons (pg_name sc__law_right.nd rfl (Or.inl rfl)) (pgs_cons (pg_name sc__law_right.nd rfl (Or.inl rfl)) (pgs_cons (pg_name sc__law_right.nd rfl (Or.inl rfl)) pgs_nil))))) rfl (fun _ _ _ z => z))
  (ds_cons (ds_parOVt (ps_asg (pe_tup (pa_cons (dn_popN (d_call O_echelon (hr.mono (by decide)) rfl gg_echelon F_echelon.kp B_echelon passB (da_cons (de_var (pv 1)) (da_cons (de_var (pv 2)) (da_cons (de_var (pv 3)) da_nil))) (lenA_cons (lenA_cons (lenA_cons lenA_nil))))) (pa_cons (de_popZ (d_call O__law_elements (hr.mono (by decide)) rfl gg__law_elements F__law_elements.kp B__law_elements passB (da_cons (de_var (pv 1)) (da_cons (de_var (pv 2)) (da_cons (de_var (pv 3)) da_nil))) (lenA_cons (lenA_cons (lenA_cons lenA_nil))))) pa_nil))) (pg_tup rfl (pgs_cons (pg_name sc__law_right.nd rfl (Or.inl rfl)) (pgs_cons (pg_name sc__law_right.nd rfl (Or.inr rfl)) pgs_nil)))))
  (ds_cons (ds_if (PW.pt (dw_or (dt_not (dt_val (de_isi1 (t := .lst) (de_varL (pv 4)) (pe_bltn rfl g_list b_list rfl) rfl g_isinstance b_isinstance))) (dw_or1 (dt_not (dt_val (d_callL O__law_steps_right (hr.mono (by decide)) rfl gg__law_steps_right F__law_steps_right.kp B__law_steps_right passB (la_cons (sl (de_var (pv 1))) (la_cons (sl (de_var (pv 2))) (la_cons (de_varL (pv 4)) la_nil))) (lenA_cons (lenA_cons (lenA_cons lenA_nil)))))))))
  (ds_one (ds_ret de_bl))
  ds_nil)
  (ds_cons (ds_for passO rfl (di_rng1 rfl g_range (da_cons (de_op o_add s_add (sl (de_var (pv 2))) (sl de_int)) da_nil) (lenA_cons lenA_nil)) (pg_name sc__law_right.nd rfl (Or.inr rfl)) (tg_name 6)
  (ds_cons (ds_set (lc_set (own := [("_law_one", 10)]) rfl sc__law_right.nd rfl rfl rfl (di_keys (de_var (pv 5))) (blkOk_by (own := [("_law_one", 10)]) (by kernel_rfl)) (fun _ _ _ _ _ => (pg_name sc__law_right.nd rfl (Or.inl rfl))) (tg_name 10) (fun _ _ _ _ _ => pts_one (dt_not (dt_val (by exact (de_callB (cr_anyI rfl) s_anyI rfl g_any b_any (la_cons (sl (de_sl (sl (de_var (pv 10))) do_none (do_some (de_var (pv 6))))) la_nil)))))) (fun _ _ _ z => z) (fun _ _ _ _ _ => (de_var (pv 10)))) (fun _ _ _ z => t_dn z))
  (ds_cons (ds_set (ps_set sc__law_right.nd rfl (Or.inl rfl) (de_popZ (d_call O__law_elements (hr.mono (by decide)) rfl gg__law_elements F__law_elements.kp B__law_elements passB (da_cons (de_var (pv 1)) (da_cons (de_var (pv 2)) (da_cons (ns (dn_lc (own := [("_law_row", 12)]) rfl sc__law_right.nd (di_seqL (de_varL (pv 4))) (blkOk_by (own := [("_law_row", 12)]) (by kernel_rfl)) (fun _ _ _ _ _ => (pg_name sc__law_right.nd rfl (Or.inl rfl))) (tg_name 12) (fun _ _ _ _ _ => pts_one (dt_not (dt_val (by exact (de_callB (cr_anyI rfl) s_anyI rfl g_any b_any (la_cons (sl (de_sl (sl (de_var (pv 12))) do_none (do_some (de_var (pv 6))))) la_nil)))))) (fun _ _ _ z => z) (fun _ _ _ _ _ => (de_var (pv 12))))) da_nil))) (lenA_cons (lenA_cons (lenA_cons lenA_nil)))))) (fun _ _ _ z => z))
  (ds_one (ds_if (dt_cmp (op_neD hr.units) s_ne (nl (dn_callB (call_sortT rfl) s_sortT rfl g_sorted b_sorted (la_cons (sl (de_var (pv 8))) la_nil))) (nl (dn_callB (call_sortLT rfl) s_sortL rfl g_sorted b_sorted (la_cons (sl (de_var (pv 7))) la_nil))) (nomark _))
  (ds_one (ds_ret de_bl))
  ds_nil)))))
  (ds_cons (ds_if (PW.pt (dw_or (dt_cmp (op_neD hr.units) s_ne (sl (de_pop (d_call O_count (hr.mono (by decide)) rfl gg_count F_count.kp B_count passB (da_cons (de_var (pv 1)) (da_cons (de_var (pv 2)) (da_cons (de_var (pv 3)) da_nil))) (lenA_cons (lenA_cons (lenA_cons lenA_nil)))))) (sl (de_callB call_lenT s_lenT rfl g_len b_len (la_cons (sl (de_var (pv 5))) la_nil))) (nomark _)) (dw_or1 (dt_cmp (op_neD hr.units) s_ne (sl (de_pop (d_callL O_count (hr.mono (by decide)) rfl gg_count F_count.kp B_count passB (la_cons (sl (de_var (pv 1))) (la_cons (sl (de_var (pv 2))) (la_cons (de_varL (pv 4)) la_nil))) (lenA_cons (lenA_cons (lenA_cons lenA_nil)))))) (sl (de_callB call_lenT s_lenT rfl g_len b_len (la_cons (sl (de_var (pv 5))) la_nil))) (nomark _)))))
  (ds_one (ds_ret de_bl))
  ds_nil)
  (ds_cons (ds_set (ps_set sc__law_right.nd rfl (Or.inl rfl) (ns (de_opN op_cat s_cat (nl (dn_lc (own := [("_law_turn", 11)]) rfl sc__law_right.nd (di_rng1 rfl g_range (da_cons de_int da_nil) (lenA_cons lenA_nil)) (blkOk_by (own := [("_law_turn", 11)]) (by kernel_rfl)) (fun _ _ _ _ _ => (pg_name sc__law_right.nd rfl (Or.inl rfl))) (tg_name 11) (fun _ _ _ _ _ => pts_nil) (fun _ _ _ z => yes_t z) (fun _ _ _ _ _ => (d_call O__law_pick (hr.mono (by decide)) rfl gg__law_pick F__law_pick.kp B__law_pick passL (da_cons (de_var (pv 0)) (da_cons (ns (dn_callB (call_sortT rfl) s_sortT rfl g_sorted b_sorted (la_cons (sl (de_var (pv 5))) la_nil))) da_nil)) (lenA_cons (lenA_cons lenA_nil)))))) (nl (dn_rev (nl (dn_callTy call_list_of s_list rfl g_list b_list (la_cons (sl (de_var (pv 3))) la_nil)))))))) (fun _ _ _ z => z))
  (ds_cons (ds_if (PW.pt (dw_or (dt_cmp (op_neD hr.units) s_ne (sl (de_pop (d_call O_echelon (hr.mono (by decide)) rfl gg_echelon F_echelon.kp B_echelon passB (da_cons (de_var (pv 1)) (da_cons (de_var (pv 2)) (da_cons (de_var (pv 9)) da_nil))) (lenA_cons (lenA_cons (lenA_cons lenA_nil)))))) (de_varL (pv 4)) (nomark _)) (dw_or1 (dt_cmp (op_neD hr.units) s_ne (sl (de_pop (d_callL O_echelon (hr.mono (by decide)) rfl gg_echelon F_echelon.kp B_echelon passB (la_cons (sl (de_var (pv 1))) (la_cons (sl (de_var (pv 2))) (la_cons (de_varL (pv 4)) la_nil))) (lenA_cons (lenA_cons (lenA_cons lenA_nil)))))) (de_varL (pv 4)) (nomark _)))))
  (ds_one (ds_ret de_bl))
  ds_nil)
  (ds_cons (ds_appO (ps_expr (pe_bm PySem.F.plainAttrs_list PySem.F.slot_list_append PySem.F.type_list_append mt_append (pv 4) (pa_cons de_non pa_nil))) (fun _ _ _ z => z))
  (ds_one (ds_ret (de_cmp (op_eqD hr.units) s_eq (sl (de_pop (d_call O_echelon (hr.mono (by decide)) rfl gg_echelon F_echelon.kp B_echelon passB (da_cons (de_var (pv 1)) (da_cons (de_var (pv 2)) (da_cons (de_callTy call_tuple_of s_tup rfl g_tuple b_tuple (la_cons (sl (de_var (pv 3))) la_nil)) da_nil))) (lenA_cons (lenA_cons (lenA_cons lenA_nil)))))) (sl (de_sl (de_varL (pv 4)) do_none (do_some (de_un un_neg s_neg (sl de_int))))) (nomark _))))))))))))⟩
theorem ok__law_source {P : Program} {w : World} {K : PySem.W.Frag} {mg : Str → Option Value} {base h : Heap} (X : K.In h) (G : h.Ns mainGlobals mg) (c : SaysX fx fa fn K) :
    ∃ fd, FunD K "_law_source" "_law_source" (defArgs s__law_source) (defBody s__law_source) (defScope s__law_source) [] [] (He.fAd K ("_law_source", none)) fd ∧ FnOk P w K mg base (L2.CX P w) 1 (He.fAd K ("_law_source", none)) fd N__law_source_ps (spM K (cl K) 1 m__law_source) := by
  obtain ⟨fd, F⟩ := c.d.def_ 25 (d := d__law_source) rfl
  have g_int : mg "int" = none := He.free_ok X G (c.d.fact 1 (f := .free "int") rfl)
  have g_abs : mg "abs" = none := He.free_ok X G (c.d.fact 44 (f := .free "abs") rfl)
  exact ⟨fd, F, fn_ok F sc__law_source (b := b__law_source) <| fun cdv A outer s H E hr => by
    have hu := L2.hu_of hr
    exact (ds_one (ds_retW (dn_lst (da_cons (de_op o_mul s_mul (sl (de_callB call_abs s_abs rfl g_abs b_abs (la_cons (sl (de_var (pv 0))) la_nil))) (sl (de_callTy call_int1 s_int rfl g_int b_int (la_cons (sl (de_cmp op_ge (s_cmp _) (sl (de_callB call_abs s_abs rfl g_abs b_abs (la_cons (sl (de_var (pv 0))) la_nil))) (sl (de_op op_pow s_pow (sl de_int) (sl de_int))) (nomark _))) la_nil)))) (da_cons (de_op op_mod s_mod (sl (de_callTy call_int1 s_int rfl g_int b_int (la_cons (sl (de_callB call_abs s_abs rfl g_abs b_abs (la_cons (sl (de_var (pv 0))) la_nil))) la_nil))) (sl de_int)) (da_cons de_int da_nil))) (lenA_cons (lenA_cons (lenA_cons lenA_nil))))))⟩
theorem ok_law {P : Program} {w : World} {K : PySem.W.Frag} {mg : Str → Option Value} {base h : Heap} (X : K.In h) (G : h.Ns mainGlobals mg) (c : SaysX fx fa fn K) :
    ∃ fd, FunD K "law" "law" (defArgs s_law) (defBody s_law) (defScope s_law) [] [] (He.fAd K ("law", none)) fd ∧ FnOk P w K mg base (L2.CX P w) 7 (He.fAd K ("law", none)) fd N_law_ps (spM K (cl K) 1 m_law) := by
  obtain ⟨fd, F⟩ := c.d.def_ 26 (d := d_law) rfl
  have g_enumerate : mg "enumerate" = none := He.free_ok X G (c.d.fact 0 (f := .free "enumerate") rfl)
  obtain ⟨fd__law_right, F__law_right, O__law_right⟩ := ok__law_right (P := P) (w := w) (base := base) X G c
  have gg__law_right : mg "_law_right" = some (.ref (He.fAd K ("_law_right", none))) := He.glo_ok X G (c.d.fact 43 (f := .glo "_law_right") rfl)
  have B__law_right : Binds K fd__law_right N__law_right_ps [] := F__law_right.bindsN fun _ _ _ _ _ _ us hl => match us, hl with | [_], _ => rfl
  obtain ⟨fd__law_source, F__law_source, O__law_source⟩ := ok__law_source (P := P) (w := w) (base := base) X G c
  have gg__law_source : mg "_law_source" = some (.ref (He.fAd K ("_law_source", none))) := He.glo_ok X G (c.d.fact 45 (f := .glo "_law_source") rfl)
  have B__law_source : Binds K fd__law_source N__law_source_ps [] := F__law_source.bindsN fun _ _ _ _ _ _ us hl => match us, hl with | [_], _ => rfl
  have g_int : mg "int" = none := He.free_ok X G (c.d.fact 1 (f := .free "int") rfl)
  have g_abs : mg "abs" = none := He.free_ok X G (c.d.fact 44 (f := .free "abs") rfl)
  exact ⟨fd, F, fn_ok F sc_law (b := b_law) <| fun cdv A outer s H E hr => by
    have hu := L2.hu_of hr
    exact (ds_cons (ds_for passO rfl (di_en rfl g_enumerate (da_cons (de_sl (nl (de_opN op_catS s_catS (sl (de_var (pv 0))) (nl (dn_lst (da_cons de_int da_nil) (lenA_cons lenA_nil))))) do_none (do_some de_int)) da_nil)) (pg_tup rfl (pgs_cons (pg_name sc_law.nd rfl (Or.inl rfl)) (pgs_cons (pg_name sc_law.nd rfl (Or.inl rfl)) pgs_nil))) (tg_tup (tgs_cons (tg_name 1) (tgs_cons (tg_name 2) tgs_nil)) (tfl_cons (tfl_cons tfl_nil)))
  (ds_one (ds_if (dt_not (dt_val (de_pop (d_call O__law_right (hr.mono (by decide)) rfl gg__law_right F__law_right.kp B__law_right passB (da_cons (d_call O__law_source (hr.mono (by decide)) rfl gg__law_source F__law_source.kp B__law_source passB (da_cons (de_op o_add s_add (sl (de_var (pv 2))) (sl (de_op o_mul s_mul (sl (de_op o_mul s_mul (sl de_int) (sl (de_var (pv 1))))) (sl (de_callTy call_int1 s_int rfl g_int b_int (la_cons (sl (de_cmp op_lt (s_cmp _) (sl (de_callB call_abs s_abs rfl g_abs b_abs (la_cons (sl (de_var (pv 2))) la_nil))) (sl (de_op op_pow s_pow (sl de_int) (sl de_int))) (nomark _))) la_nil)))))) da_nil) (lenA_cons lenA_nil)) da_nil) (lenA_cons lenA_nil)))))
  (ds_one (ds_ret de_bl))
  ds_nil)))
  (ds_one (ds_ret de_bl)))⟩
end G11

set_option Elab.async false
set_option linter.all false
set_option maxRecDepth 100000
set_option autoImplicit false
set_option maxHeartbeats 0
namespace G11
open PySem PySem.Spec PyProof.Rows L2 Dm
abbrev R : PySem.W.OpenRow := PySem.W.OpenLaw.row PySem.Challenge.rw_leastattr_k11_modules_in_steps
abbrev hk : PySem.W.Hook := hookC 6 fx fa fn
def ob (s : PySem.W.SharedT) : AlX := obsXC 6 fx fa fn (HandSHeadRun.getT s)
theorem ob_eq (s : PySem.W.SharedT) : ob s = hk.obs s.abs := obsXC_eq (HandSHeadRun.getT_eq s)
def loose : List Str := (["AttrError", "NoRows", "MAX_WIDTH", "is_int", "is_from", "check_sizes", "are_many_ints", "reduced_rows", "power_in", "inverse", "times", "less", "Stair", "stair_of", "echelon", "count", "_law_source", "_law_draw", "_law_pick", "_law_number", "_law_rows", "_law_small", "_law_elements", "_law_steps_right", "_law_right"] : List Str)
theorem run (w : World) : HandSHeadRun.RunEq R (PySem.W.view R.prog [29]) hk ob 4000 loose w := by
  intro os
  kernel_rfl
theorem facts {P : Program} {w : World} {K : PySem.W.Frag} {h : Heap} {mg : Str → Option Value} {f : Addr} (X : K.In h) (G : h.Ns mainGlobals mg) (hfa : mg ("law" : Str) = some (.ref f)) (c : SaysX fx fa fn K) :
    ∃ fd : FuncData, (∀ (s : Shared) (v : Value), BindsTo s fd ⟨[v], []⟩ [("_law_script", v)]) ∧ ∀ base : Heap, K.In base → base.Ns mainGlobals mg → FnOk P w K mg base (L2.CX P w) 7 f fd ["_law_script"] (spM K (cl K) 1 m_law) := by
  obtain ⟨fd, F⟩ := c.d.def_ 26 (d := d_law) rfl
  have e := hfa.symm.trans (He.glo_ok X G (c.d.fact 46 (f := .glo "law") rfl))
  cases e
  have b := FunD.bindsA (ps := ["_law_script"]) F fun _ _ _ _ _ _ us hl => match us, hl with | [_], _ => rfl
  refine ⟨fd, fun s v => b s [v] rfl, fun base _ _ => ?_⟩
  obtain ⟨fd2, F2, O⟩ := ok_law (P := P) (w := w) (base := base) X G c
  have e2 : fd2 = fd := by
    obtain ⟨_, _, _, _, _, _, _, _, _, _, q1, k1, _⟩ := F.ex
    obtain ⟨_, _, _, _, _, _, _, _, _, _, q2, k2, _⟩ := F2.ex
    have k3 := k1.symm.trans k2
    simp only [Option.some.injEq, Obj.mk.injEq, Data.func.injEq] at k3
    exact k3.2.2.1.symm
  rw [← e2]
  exact O
end G11
open PySem PySem.W PySem.Calls PyProof.Rows in
theorem G11.holds (hlaw : ∀ ns : List Int, ns.length ≤ 63 → ∃ S, G11.m_law [.scr ns] [] = .ok (.bl true) S) : PySem.Challenge.rw_leastattr_k11_modules_in_steps.Holds := by
  w_on; o_law
  refine HandSHeadRun.head_any (r := OpenLaw.row PySem.Challenge.rw_leastattr_k11_modules_in_steps) (q := view (OpenLaw.row PySem.Challenge.rw_leastattr_k11_modules_in_steps).prog [29]) (H := G11.hk) (ob := G11.ob) (M := 4000) (loose := G11.loose) (d := HandSHeadRun.topDef (OpenLaw.row PySem.Challenge.rw_leastattr_k11_modules_in_steps).prog 29) (kwd := []) G11.ob_eq
    (by kernel_rfl) (fun s => by kernel_rfl) G11.run (by kernel_rfl) (by kernel_rfl) (by kernel_rfl) (by rfl) (by first | assumption | decide +kernel) (by decide +kernel) ⟨rfl, rfl, rfl, rfl, rfl, by decide +kernel⟩ ?hw ?hc
  case hw => w_witness2
  case hc =>
    refine Dm.walk_ofW (l := PySem.Challenge.rw_leastattr_k11_modules_in_steps) (n := 63) (k := 7) (x := "_law_script") (CX := fun w => L2.CX (PySem.Challenge.rw_leastattr_k11_modules_in_steps).prog w) rfl (by decide) (by kernel_rfl) ⟨rfl, by decide, by decide⟩ ?F (fun _ _ _ _ _ z => Dm.noCX z)
    intro w mg fa h Y G hmg0
    obtain ⟨K, KX, c⟩ := Y
    have hmg : mg ("law" : PySem.Str) = some (.ref fa) := by
      have e : (HandSHeadRun.topDef (OpenLaw.row PySem.Challenge.rw_leastattr_k11_modules_in_steps).prog 29).name = ("law" : PySem.Str) := by kernel_rfl
      rw [← e]
      exact hmg0
    obtain ⟨fd, hb, hF⟩ := G11.facts (P := (PySem.Challenge.rw_leastattr_k11_modules_in_steps).prog) (w := w) KX G hmg c
    exact ⟨K, fd, Dm.spM K (G11.cl K) 1 G11.m_law, KX, hb, fun H a ns hl hS => Dm.sp_law hlaw H a ns hl hS, hF⟩


set_option Elab.async false
set_option linter.all false
set_option maxRecDepth 100000
set_option autoImplicit false
set_option maxHeartbeats 1000000
namespace G11
open PySem PySem.Spec L2 Dm Md
local macro_rules | `(tactic| walk_at "wp") => `(tactic| (repeat (first | ((with_reducible apply w_var); exact rfl) | with_reducible refine w_c ?_ | with_reducible refine w_bin ?_ | with_reducible refine w_un ?_ | with_reducible refine w_cB ?_ | with_reducible refine w_cons ?_ | with_reducible refine w_nil ?_ | with_reducible refine w_seqI ?_ | with_reducible refine w_rng2 ?_ | with_reducible refine w_rng1 ?_ | with_reducible refine w_zpI ?_ | ((with_reducible apply w_comp); exact rfl) | with_reducible refine w_assoc ?_ | with_reducible refine w_qnil ?_ | with_reducible refine w_qset ?_ | with_reducible refine w_qret ?_ | with_reducible refine w_qfor ?_ | with_reducible refine w_for ?_ | with_reducible refine w_nilS ?_ | with_reducible refine w_ret ?_ | with_reducible refine w_set ?_ | with_reducible refine ⟨_, f_sub, ?_⟩ | with_reducible refine ⟨_, f_neg, ?_⟩ | with_reducible refine ⟨_, f_tupL, ?_⟩ | with_reducible refine ⟨_, f_tupT, ?_⟩ | with_reducible refine ⟨_, seqQ, ?_⟩ | with_reducible refine ⟨_, tupQ, ?_⟩ | with_reducible refine ⟨_, _, rfl, seqQ, ?_⟩ | with_reducible refine ⟨_, _, rfl, rfl, ?_⟩ | with_reducible refine ⟨_, _, _, rfl, rfl, ?_⟩ | with_reducible refine ⟨_, _, _, _, rfl, rfl, rfl, ?_⟩ | ((with_reducible refine ⟨_, f_mod ?_, ?_⟩); (first | assumption | omega | decide)) | ((with_reducible refine ⟨_, f_mul ?_, ?_⟩); omega) | with_reducible refine ⟨_, rfl, ?_⟩ | with_reducible refine ret_ok.mpr ?_ | refine w_yes rfl ?_ | refine w_no rfl ?_ | ((with_reducible refine w_yes (decide_eq_true ?_) ?_); omega) | ((with_reducible refine w_no (decide_eq_false ?_) ?_); omega) | ((with_reducible refine w_nyes ?_ ?_); omega) | ((with_reducible refine w_nno ?_ ?_); omega))))
def Small (r : List Int) : Prop := ∀ x ∈ r, -(2 ^ 64) < x ∧ x < 2 ^ 64
/- b_times b_less b_inverse b_power_in -/
theorem times_ok {r : List Int} {c M : Int} {S : Sto} (hr : Small r) (hM : 0 < M) : Ret (m_times [tupI r, .int c, .int M] S) fun v S1 => v = tupI (timesL r c M) ∧ S1 = S := by
  unfold m_times b_times
  refine w_run ?_
  walk_at "wp"
  refine comp_pure Vl.int (fun x => .int (x * c % M)) r (fun x hx => ⟨_, rfl, ?_⟩) ?_
  · walk_at "wp"
    refine ⟨_, f_mul (.inl (hr x hx)), ?_⟩
    walk_at "wp"
    exact ⟨rfl, rfl⟩
  · walk_at "wp"
    refine ⟨?_, rfl⟩
    unfold tupI timesL
    rw [List.map_map]
    rfl
theorem zp_int (r o : List Int) : zpL (r.map .int) (o.map .int) = (r.zip o).map fun p => .tup [.int p.1, .int p.2] := by
  unfold zpL
  induction r generalizing o with
  | nil => rfl
  | cons x r ih =>
    cases o with
    | nil => rfl
    | cons y o =>
      rw [List.map_cons, List.map_cons, List.zipWith_cons_cons, ih, List.zip_cons_cons, List.map_cons]
theorem p64 {w : Nat} (hw : w ≤ 64) : (2 : Int) ^ w ≤ 2 ^ 64 := Int.le_of_dvd (two_pow_pos 64) (pow_dv hw)
def nw (u M : Int) : Nat → Int
  | 0 => u
  | k + 1 => nwt u M (nw u M k)
theorem less_ok {r o : List Int} {c M : Int} {S : Sto} (ho : Small o) (hM : 0 < M) : Ret (m_less [tupI r, tupI o, .int c, .int M] S) fun v S1 => v = tupI (lessL r o c M) ∧ S1 = S := by
  unfold m_less b_less
  refine w_run ?_
  walk_at "wp"
  rw [zp_int]
  refine comp_pure (fun p : Int × Int => Vl.tup [.int p.1, .int p.2]) (fun p => .int ((p.1 - p.2 * c) % M)) (r.zip o) (fun p hp => ⟨_, rfl, ?_⟩) ?_
  · walk_at "wp"
    refine ⟨_, f_mul (.inl (ho p.2 (List.of_mem_zip (a := p.1) (b := p.2) hp).2)), ?_⟩
    walk_at "wp"
    exact ⟨rfl, rfl⟩
  · walk_at "wp"
    refine ⟨?_, rfl⟩
    unfold tupI lessL
    rw [List.map_map]
    rfl
theorem inverse_ok {u : Int} {w : Nat} {S : Sto} (hw : w ≤ 64) (h0 : 0 ≤ u) (h1 : u < 2 ^ w) : Ret (m_inverse [.int u, .int (2 ^ w)] S) fun v S1 => v = .int (inv5 u (2 ^ w)) ∧ S1 = S := by
  have hM := two_pow_pos w
  have h64 := p64 hw
  unfold m_inverse b_inverse
  refine w_run ?_
  walk_at "wp"
  refine ⟨by decide, ?_⟩
  refine (loop_ret (fun k env S' => S' = S ∧ (0 ≤ nw u (2 ^ w) k ∧ nw u (2 ^ w) k < 2 ^ w) ∧ ∃ s3 : Sv, env = [.v (.int u), .v (.int (2 ^ w)), .v (.int (nw u (2 ^ w) k)), s3]) _ 0 _ _ ⟨rfl, ⟨h0, h1⟩, .un, rfl⟩ ?_).mono ?_
  · rintro k x env S1 hx ⟨rfl, ⟨b0, b1⟩, s3, rfl⟩
    rw [Nat.zero_add] at b0 b1 ⊢
    refine ⟨_, rfl, ?_⟩
    walk_at "wp"
    refine ⟨_, .inl rfl, rfl, ⟨Int.emod_nonneg _ (by omega), Int.emod_lt_of_pos _ hM⟩, _, rfl⟩
  · rintro _ S1 ⟨e, rfl, rfl, _, s3, rfl⟩
    walk_at "wp"
    exact ⟨rfl, rfl⟩
theorem power_ok {x : Int} {S : Sto} : Ret (m_power_in [.int x] S) fun v S1 => v = .int (pw x) ∧ S1 = S := by
  unfold m_power_in b_power_in
  refine w_run ?_
  walk_at "wp"
  exact ⟨rfl, rfl⟩
end G11

set_option Elab.async false
set_option linter.all false
set_option maxRecDepth 100000
set_option autoImplicit false
set_option maxHeartbeats 1000000
namespace G11
open PySem PySem.Spec L2 Dm Md
/-- a stair; its pivots' dict -/
abbrev stV (w n k : Nat) : Vl := .ins 0 ["modulus", "wide", "pivots"] [.int (2 ^ w), .int n, .ref k]
def dkV (P : Pv) : Vl := .dk (P.map fun p => .inl (p.1 : Int)) (P.map fun p => tupI p.2)
def ltV (W : List (List Int)) : Vl := .lst (W.map tupI)
theorem dk_get (P : Pv) (a : Nat) : dkGet (P.map fun p => (.inl (p.1 : Int) : L2.Key)) (P.map fun p => tupI p.2) (.inl (a : Int)) = (getP P a).map tupI := by
  induction P with
  | nil => rfl
  | cons p P ih =>
    obtain ⟨b, r⟩ := p
    rw [List.map_cons, List.map_cons]
    unfold dkGet getP
    by_cases h : b = a
    · subst h; rw [if_pos rfl, if_pos rfl]; rfl
    · rw [if_neg h, if_neg (fun z => h (by injection z with z; exact Int.ofNat.inj z))]
      exact ih
theorem dk_put (P : Pv) (a : Nat) (r : List Int) : Vl.dk (putV (P.map fun p => (.inl (p.1 : Int) : L2.Key)) (P.map fun p => tupI p.2) (.inl (a : Int)) (tupI r)).1 (putV (P.map fun p => (.inl (p.1 : Int) : L2.Key)) (P.map fun p => tupI p.2) (.inl (a : Int)) (tupI r)).2 = dkV (Md.putP P a r) := by
  have e1 : ((P.map fun p => (.inl (p.1 : Int) : L2.Key)).any fun q => decide (q = .inl (a : Int))) = P.any fun p => decide (p.1 = a) := by
    rw [List.any_map]
    congr 1
    funext p
    refine decide_eq_decide.mpr ⟨fun z => by injection z with z; exact Int.ofNat.inj z, fun z => ?_⟩
    show (Sum.inl ((p.1 : Nat) : Int) : L2.Key) = _
    rw [z]
  unfold putV Md.putP dkV
  rw [e1]
  by_cases h : (P.any fun p => decide (p.1 = a)) = true
  · rw [if_pos h, if_pos h]
    have e2 : ∀ Q : Pv, replV (.inl (a : Int)) (tupI r) (Q.map fun p => (.inl (p.1 : Int) : L2.Key)) (Q.map fun p => tupI p.2) = (Q.map fun p => if p.1 = a then (a, r) else p).map fun p => tupI p.2 := fun Q => by
      induction Q with
      | nil => rfl
      | cons p Q ih =>
        obtain ⟨b, q⟩ := p
        rw [List.map_cons, List.map_cons, List.map_cons, List.map_cons]
        show (if (Sum.inl ((b : Nat) : Int) : L2.Key) = .inl (a : Int) then tupI r else tupI q) :: replV (.inl (a : Int)) (tupI r) (Q.map fun p => (.inl (p.1 : Int) : L2.Key)) (Q.map fun p => tupI p.2) = tupI (if b = a then (a, r) else (b, q)).2 :: _
        rw [ih]
        congr 1
        by_cases hb : b = a
        · subst hb; rw [if_pos rfl, if_pos rfl]
        · rw [if_neg hb, if_neg (fun z => hb (by injection z with z; exact Int.ofNat.inj z))]
    have e3 : (P.map fun p => if p.1 = a then (a, r) else p).map (fun p => (.inl (p.1 : Int) : L2.Key)) = P.map fun p => .inl (p.1 : Int) := by
      rw [List.map_map]
      refine List.map_congr_left fun p _ => ?_
      show (Sum.inl (((if p.1 = a then (a, r) else p).1 : Nat) : Int) : L2.Key) = _
      by_cases hp : p.1 = a
      · rw [if_pos hp, hp]
      · rw [if_neg hp]
    rw [e2 P, e3]
  · rw [if_neg h, if_neg h, List.map_append, List.map_append]
    rfl
/-- the keys of the pivots -/
structure KInv (n : Nat) (P : Pv) : Prop where
  nd : (P.map (·.1)).Nodup
  lt : ∀ a ∈ P.map (·.1), a < n
theorem nodup_len : ∀ (n : Nat) (l : List Nat), l.Nodup → (∀ a ∈ l, a < n) → l.length ≤ n
  | 0, l, _, h => by
    cases l with
    | nil => exact Nat.le_refl _
    | cons a l => exact absurd (h a (List.mem_cons_self ..)) (by omega)
  | n + 1, l, hd, h => by
    by_cases hm : n ∈ l
    · have h1 := nodup_len n (l.erase n) (hd.erase n) fun a ha => by
        have h2 := (hd.mem_erase_iff.mp ha)
        have := h a h2.2
        have := h2.1
        omega
      have h3 := List.length_erase_of_mem hm
      omega
    · have := nodup_len n l hd fun a ha => by
        have := h a ha
        have : a ≠ n := fun z => hm (z ▸ ha)
        omega
      omega
theorem KInv.len {n : Nat} {P : Pv} (h : KInv n P) : P.length ≤ n := by
  have := nodup_len n (P.map (·.1)) h.nd h.lt
  rwa [List.length_map] at this
theorem any_key (P : Pv) (a : Nat) : (P.any fun p => decide (p.1 = a)) = true ↔ a ∈ P.map (·.1) := by
  rw [List.any_eq_true, List.mem_map]
  constructor
  · rintro ⟨p, hp, h⟩
    exact ⟨p, hp, of_decide_eq_true h⟩
  · rintro ⟨p, hp, h⟩
    exact ⟨p, hp, decide_eq_true h⟩
theorem KInv.put {n : Nat} {P : Pv} (h : KInv n P) {a : Nat} (ha : a < n) (r : List Int) : KInv n (Md.putP P a r) := by
  unfold Md.putP
  by_cases hk : (P.any fun p => decide (p.1 = a)) = true
  · rw [if_pos hk]
    have e : (P.map fun p => if p.1 = a then (a, r) else p).map (·.1) = P.map (·.1) := by
      rw [List.map_map]
      refine List.map_congr_left fun p _ => ?_
      show (if p.1 = a then (a, r) else p).1 = p.1
      by_cases hp : p.1 = a
      · rw [if_pos hp, hp]
      · rw [if_neg hp]
    exact ⟨by rw [e]; exact h.nd, by rw [e]; exact h.lt⟩
  · rw [if_neg hk]
    have hk' : a ∉ P.map (·.1) := fun z => hk ((any_key P a).mpr z)
    refine ⟨?_, fun b hb => ?_⟩
    · rw [List.map_append, List.nodup_append]
      refine ⟨h.nd, by simp, fun x hx y hy => ?_⟩
      have : y = a := by simpa using hy
      rw [this]
      exact fun z => hk' (z ▸ hx)
    · rw [List.map_append] at hb
      rcases List.mem_append.mp hb with hb | hb
      · exact h.lt b hb
      · have : b = a := by simpa using hb
        omega
theorem KInv.pass {n : Nat} {P : Pv} (h : KInv n P) {a : Nat} (ha : a < n) (M : Int) (r : List Int) : KInv n (passP M P r a).2.1 := by
  unfold passP
  cases getP P a with
  | none => exact h.put ha _
  | some o =>
    dsimp only
    by_cases hc : ent r a ≥ ent o a ∧ ent r a % ent o a = 0
    · rw [if_pos hc]; exact h
    · rw [if_neg hc]; exact h.put ha _
theorem getP_key (P : Pv) (a : Nat) : getP P a ≠ none ↔ a ∈ P.map (·.1) := by
  induction P with
  | nil => simp [getP]
  | cons p P ih =>
    obtain ⟨b, r⟩ := p
    unfold getP
    by_cases h : b = a
    · subst h; simp
    · rw [if_neg h, ih]
      have : a ≠ b := fun z => h z.symm
      simp [this]
end G11

set_option Elab.async false
set_option linter.all false
set_option maxRecDepth 100000
set_option autoImplicit false
set_option maxHeartbeats 1000000
namespace G11
open PySem PySem.Spec L2 Dm Md
local macro_rules | `(tactic| walk_at "wp") => `(tactic| (repeat (first | ((with_reducible apply w_var); exact rfl) | with_reducible refine w_c ?_ | with_reducible refine w_bin ?_ | with_reducible refine w_tv ?_ | with_reducible refine w_cons ?_ | with_reducible refine w_nil ?_ | with_reducible refine w_call ?_ | with_reducible refine w_andT ?_ | with_reducible refine w_fld ?_ | with_reducible refine w_assoc ?_ | with_reducible refine w_qnil ?_ | with_reducible refine w_qset ?_ | with_reducible refine w_qret ?_ | with_reducible refine w_qif ?_ | with_reducible refine w_getM ?_ | with_reducible refine w_qsetDR ?_ | with_reducible refine w_setDR ?_ | with_reducible refine w_qappRr ?_ | with_reducible refine w_appRr ?_ | with_reducible refine w_nilS ?_ | with_reducible refine w_ret ?_ | with_reducible refine w_ifS ?_ | with_reducible refine w_set ?_ | with_reducible refine ⟨_, f_cmp, ?_⟩ | with_reducible refine ⟨_, f_eqI, ?_⟩ | with_reducible refine ⟨_, f_isN, ?_⟩ | with_reducible refine ⟨_, _, rfl, rfl, ?_⟩ | with_reducible refine ⟨_, _, _, rfl, rfl, ?_⟩ | with_reducible refine ⟨_, _, _, _, rfl, rfl, rfl, ?_⟩ | ((with_reducible refine ⟨_, f_mod ?_, ?_⟩); (first | assumption | omega | decide)) | ((with_reducible refine ⟨_, f_fdiv ?_ ?_, ?_⟩); (first | assumption | omega | decide); (first | assumption | omega | decide)) | with_reducible refine ⟨_, rfl, ?_⟩ | with_reducible refine ret_ok.mpr ?_ | refine w_yes rfl ?_ | refine w_no rfl ?_ | ((with_reducible refine w_yes (decide_eq_true ?_) ?_); omega) | ((with_reducible refine w_no (decide_eq_false ?_) ?_); omega) | ((with_reducible refine w_nyes ?_ ?_); omega) | ((with_reducible refine w_nno ?_ ?_); omega))))
theorem ix_row {S : Sto} {r : List Int} {a : Nat} (h : a < r.length) : ixF S (tupI r) (.int a) = some (.int (ent r a)) := by
  show atI (r.map Vl.int) (a : Int) = _
  rw [Dm.atI_nat, List.getElem?_map, List.getElem?_eq_getElem h]
  show some (Vl.int r[a]) = _
  unfold ent
  rw [List.getD_eq_getElem?_getD, List.getElem?_eq_getElem h]
  rfl
theorem look_r {S : Sto} {n : Nat} {x : Vl} (h : S[n]? = some x) : look S (.ref n) = x := by
  show (S[n]?).getD _ = x
  rw [h]
  rfl
theorem small_of {w n : Nat} {r : List Int} (hw : w ≤ 64) (h : Rw (2 ^ w) n r) : Small r := fun x hx => by
  obtain ⟨k, hk⟩ := List.getElem?_of_mem hx
  have hl := (List.getElem?_eq_some_iff.mp hk).1
  obtain ⟨b0, b1⟩ := h.bd k (by rw [← h.len]; exact hl)
  have e : Md.ent r k = x := by
    show r.getD k 0 = x
    rw [List.getD_eq_getElem?_getD, hk]
    rfl
  rw [e] at b0 b1
  have := p64 hw
  omega
theorem set_same {S : Sto} {n : Nat} {x : Vl} (h : S[n]? = some x) : S.set n x = S := by
  obtain ⟨hl, e⟩ := List.getElem?_eq_some_iff.mp h
  rw [← e]
  exact List.set_getElem_self hl
abbrev up2 (S : Sto) (k m : Nat) (P : Pv) (W : List (List Int)) : Sto := (S.set k (dkV P)).set m (ltV W)
/- b_Stair_passed -/
theorem passed_ok {w n k m : Nat} {P : Pv} {W : List (List Int)} {r : List Int} {a : Nat} {S : Sto} (hw : w ≤ 64) (hk : S[k]? = some (dkV P)) (hm : S[m]? = some (ltV W)) (hkm : k ≠ m) (I : PInv w n (getP P) (r :: W)) (hK : KInv n P) (hn : n < 1000000) (ha : a < n) (hz : Zb a r) (h0 : Md.ent r a ≠ 0) (hl : W.length < 16777216) :
    Ret (m_Stair_passed [stV w n k, tupI r, .int a, .ref m] S) fun v S1 => v = tupI (passP (2 ^ w) P r a).1 ∧ S1 = up2 S k m (passP (2 ^ w) P r a).2.1 (W ++ (passP (2 ^ w) P r a).2.2) := by
  have hM := two_pow_pos w
  have h64 := p64 hw
  have hr := I.lrw r (List.mem_cons_self ..)
  have hra : a < r.length := by rw [hr.len]; exact ha
  have hx := hr.bd a ha
  obtain ⟨e, u, i, hp, mk⟩ := mk_ok hw hr ha hz h0
  have he : (2 : Int) ^ e < 2 ^ 64 := by
    have h1 : (2 : Int) ^ e ≤ 2 ^ w := Int.le_of_dvd hM (pow_dv (Nat.le_of_lt mk.he))
    have h2 : e < w := mk.he
    have h3 : (2 : Int) ^ (e + 1) ≤ 2 ^ w := Int.le_of_dvd hM (pow_dv h2)
    have h4 : (2 : Int) ^ (e + 1) = 2 * 2 ^ e := Int.pow_succ' ..
    have := two_pow_pos e
    omega
  have hp0 : 0 < pw (Md.ent r a) := by rw [hp]; exact two_pow_pos e
  have hp200 : pw (Md.ent r a) < 2 ^ 200 := by rw [hp]; omega
  have hu0 : 0 ≤ Md.ent r a / pw (Md.ent r a) := Int.ediv_nonneg hx.1 (by omega)
  have hu1 : Md.ent r a / pw (Md.ent r a) < 2 ^ w := Int.lt_of_le_of_lt (Int.ediv_le_self _ hx.1) hx.2
  have hlen : (P.map fun p => (.inl (p.1 : Int) : L2.Key)).length < 16777216 := by rw [List.length_map]; have := hK.len; omega
  have hkl : k < S.length := (List.getElem?_eq_some_iff.mp hk).1
  unfold m_Stair_passed b_Stair_passed
  refine w_run ?_
  walk_at "wp"
  refine ⟨_, _, look_r hk, ?_⟩
  walk_at "wp"
  refine ⟨_, _, _, look_r hk, rfl, ?_⟩
  rw [dk_get]
  cases hg : getP P a with
  | none =>
    show Ret (seqS _ _ ((startE N_Stair_passed.length [stV w n k, tupI r, Vl.int ↑a, Vl.ref m]).set 4 (Sv.v .non)) S) _
    walk_at "wp"
    refine ⟨_, ix_row hra, ?_⟩
    walk_at "wp"
    refine power_ok.mono ?_
    rintro _ S ⟨rfl, rfl⟩
    walk_at "wp"
    refine ⟨_, ix_row hra, ?_⟩
    walk_at "wp"
    refine (inverse_ok hw hu0 hu1).mono ?_
    rintro _ S ⟨rfl, rfl⟩
    walk_at "wp"
    refine (times_ok (small_of hw hr) hM).mono ?_
    rintro _ S ⟨rfl, rfl⟩
    walk_at "wp"
    refine ⟨_, _, _, _, rfl, hk, rfl, hlen, ?_⟩
    rw [dk_put]
    walk_at "wp"
    refine (times_ok (small_of hw mk.prw) hM).mono ?_
    rintro _ S ⟨rfl, rfl⟩
    walk_at "wp"
    have e1 : passP (2 ^ w) P r a = (timesL (timesL r (inv5 (Md.ent r a / pw (Md.ent r a)) (2 ^ w)) (2 ^ w)) (2 ^ w / pw (Md.ent r a)) (2 ^ w), Md.putP P a (timesL r (inv5 (Md.ent r a / pw (Md.ent r a)) (2 ^ w)) (2 ^ w)), []) := by
      unfold passP
      rw [hg]
    rw [e1]
    refine ⟨rfl, (set_same ?_).symm⟩
    rw [List.append_nil, List.getElem?_set_ne hkm]
    exact hm
  | some o =>
    show Ret (seqS _ _ ((startE N_Stair_passed.length [stV w n k, tupI r, Vl.int ↑a, Vl.ref m]).set 4 (Sv.v (tupI o))) S) _
    obtain ⟨_, ho, _, j, hj, hoa⟩ := I.piv a o hg
    have hoo : a < o.length := by rw [ho.len]; exact ha
    have ho0 : 0 < Md.ent o a := by rw [hoa]; exact two_pow_pos j
    have ho200 : Md.ent o a < 2 ^ 200 := by have := ho.bd a ha; omega
    walk_at "wp"
    refine ⟨_, ix_row hra, ?_⟩
    walk_at "wp"
    refine ⟨_, ix_row hoo, ?_⟩
    walk_at "wp"
    refine ⟨fun h1 => ?_, fun h1 => ?_⟩
    · walk_at "wp"
      refine ⟨_, ix_row hra, ?_⟩
      walk_at "wp"
      refine ⟨_, ix_row hoo, ?_⟩
      walk_at "wp"
      refine ⟨fun h2 => ?_, fun h2 => ?_⟩
      · walk_at "wp"
        refine ⟨_, ix_row hra, ?_⟩
        walk_at "wp"
        refine ⟨_, ix_row hoo, ?_⟩
        walk_at "wp"
        refine (less_ok (small_of hw ho) hM).mono ?_
        rintro _ S ⟨rfl, rfl⟩
        have hc : Md.ent r a ≥ Md.ent o a ∧ Md.ent r a % Md.ent o a = 0 := ⟨of_decide_eq_true h1, of_decide_eq_true h2⟩
        have e1 : passP (2 ^ w) P r a = (lessL r o (Md.ent r a / Md.ent o a) (2 ^ w), P, []) := by
          unfold passP
          rw [hg]
          exact if_pos hc
        rw [e1]
        refine ⟨rfl, ?_⟩
        rw [List.append_nil]
        show _ = (S.set k (dkV P)).set m (ltV W)
        rw [set_same hk, set_same hm]
      · have hc : ¬ (Md.ent r a ≥ Md.ent o a ∧ Md.ent r a % Md.ent o a = 0) := fun z => absurd z.2 (of_decide_eq_false h2)
        walk_at "wp"
        refine ⟨_, ix_row hra, ?_⟩
        walk_at "wp"
        refine power_ok.mono ?_
        rintro _ S ⟨rfl, rfl⟩
        walk_at "wp"
        refine ⟨_, ix_row hra, ?_⟩
        walk_at "wp"
        refine (inverse_ok hw hu0 hu1).mono ?_
        rintro _ S ⟨rfl, rfl⟩
        walk_at "wp"
        refine (times_ok (small_of hw hr) hM).mono ?_
        rintro _ S ⟨rfl, rfl⟩
        walk_at "wp"
        refine ⟨_, _, _, _, rfl, hk, rfl, hlen, ?_⟩
        rw [dk_put]
        walk_at "wp"
        refine (times_ok (small_of hw mk.prw) hM).mono ?_
        rintro _ S1 ⟨rfl, rfl⟩
        walk_at "wp"
        refine ⟨m, _, rfl, (List.getElem?_set_ne hkm).trans hm, ?_⟩
        walk_at "wp"
        refine ⟨_, (List.getElem?_set_ne hkm).trans hm, by rw [List.length_map]; exact hl, ?_⟩
        walk_at "wp"
        refine ⟨_, ix_row hoo, ?_⟩
        walk_at "wp"
        refine (less_ok (small_of hw mk.prw) hM).mono ?_
        rintro _ S1 ⟨rfl, rfl⟩
        have e1 : passP (2 ^ w) P r a = (lessL o (timesL r (inv5 (Md.ent r a / pw (Md.ent r a)) (2 ^ w)) (2 ^ w)) (Md.ent o a / pw (Md.ent r a)) (2 ^ w), Md.putP P a (timesL r (inv5 (Md.ent r a / pw (Md.ent r a)) (2 ^ w)) (2 ^ w)), [timesL (timesL r (inv5 (Md.ent r a / pw (Md.ent r a)) (2 ^ w)) (2 ^ w)) (2 ^ w / pw (Md.ent r a)) (2 ^ w)]) := by
          unfold passP
          rw [hg]
          exact if_neg hc
        rw [e1]
        refine ⟨rfl, ?_⟩
        show _ = List.set _ m (Vl.lst ((W ++ [_]).map tupI))
        rw [List.map_append]
        rfl
    · have hc : ¬ (Md.ent r a ≥ Md.ent o a ∧ Md.ent r a % Md.ent o a = 0) := fun z => by
        have := of_decide_eq_false h1
        omega
      walk_at "wp"
      refine ⟨_, ix_row hra, ?_⟩
      walk_at "wp"
      refine power_ok.mono ?_
      rintro _ S ⟨rfl, rfl⟩
      walk_at "wp"
      refine ⟨_, ix_row hra, ?_⟩
      walk_at "wp"
      refine (inverse_ok hw hu0 hu1).mono ?_
      rintro _ S ⟨rfl, rfl⟩
      walk_at "wp"
      refine (times_ok (small_of hw hr) hM).mono ?_
      rintro _ S ⟨rfl, rfl⟩
      walk_at "wp"
      refine ⟨_, _, _, _, rfl, hk, rfl, hlen, ?_⟩
      rw [dk_put]
      walk_at "wp"
      refine (times_ok (small_of hw mk.prw) hM).mono ?_
      rintro _ S1 ⟨rfl, rfl⟩
      walk_at "wp"
      refine ⟨m, _, rfl, (List.getElem?_set_ne hkm).trans hm, ?_⟩
      walk_at "wp"
      refine ⟨_, (List.getElem?_set_ne hkm).trans hm, by rw [List.length_map]; exact hl, ?_⟩
      walk_at "wp"
      refine ⟨_, ix_row hoo, ?_⟩
      walk_at "wp"
      refine (less_ok (small_of hw mk.prw) hM).mono ?_
      rintro _ S1 ⟨rfl, rfl⟩
      have e1 : passP (2 ^ w) P r a = (lessL o (timesL r (inv5 (Md.ent r a / pw (Md.ent r a)) (2 ^ w)) (2 ^ w)) (Md.ent o a / pw (Md.ent r a)) (2 ^ w), Md.putP P a (timesL r (inv5 (Md.ent r a / pw (Md.ent r a)) (2 ^ w)) (2 ^ w)), [timesL (timesL r (inv5 (Md.ent r a / pw (Md.ent r a)) (2 ^ w)) (2 ^ w)) (2 ^ w / pw (Md.ent r a)) (2 ^ w)]) := by
        unfold passP
        rw [hg]
        exact if_neg hc
      rw [e1]
      refine ⟨rfl, ?_⟩
      show _ = List.set _ m (Vl.lst ((W ++ [_]).map tupI))
      rw [List.map_append]
      rfl
end G11

set_option Elab.async false
set_option linter.all false
set_option maxRecDepth 100000
set_option autoImplicit false
set_option maxHeartbeats 1000000
namespace G11
open PySem PySem.Spec L2 Dm Md
local macro_rules | `(tactic| walk_at "wp") => `(tactic| (repeat (first | ((with_reducible apply w_var); exact rfl) | with_reducible refine w_c ?_ | with_reducible refine w_bin ?_ | with_reducible refine w_tv ?_ | with_reducible refine w_cons ?_ | with_reducible refine w_nil ?_ | with_reducible refine w_lst ?_ | with_reducible refine w_meth ?_ | with_reducible refine w_fld ?_ | with_reducible refine w_rng2 ?_ | with_reducible refine w_rng1 ?_ | with_reducible refine w_assoc ?_ | with_reducible refine w_qnil ?_ | with_reducible refine w_qset ?_ | with_reducible refine w_qnew ?_ | with_reducible refine w_qif ?_ | with_reducible refine w_popE ?_ | with_reducible refine w_qfor ?_ | with_reducible refine w_for ?_ | with_reducible refine w_nilS ?_ | with_reducible refine w_ifS ?_ | with_reducible refine w_set ?_ | with_reducible refine ⟨_, f_neI, ?_⟩ | with_reducible refine ⟨_, _, rfl, rfl, ?_⟩ | with_reducible refine ⟨_, _, _, rfl, rfl, ?_⟩ | with_reducible refine ⟨_, _, _, _, rfl, rfl, rfl, ?_⟩ | with_reducible refine ⟨_, rfl, ?_⟩ | with_reducible refine ret_ok.mpr ?_ | refine w_yes rfl ?_ | refine w_no rfl ?_ | ((with_reducible refine w_yes (decide_eq_true ?_) ?_); omega) | ((with_reducible refine w_no (decide_eq_false ?_) ?_); omega) | ((with_reducible refine w_nyes ?_ ?_); omega) | ((with_reducible refine w_nno ?_ ?_); omega))))
/-- the store in put: the pivots at k, the waiting rows at its end -/
abbrev pst (S : Sto) (k : Nat) (P : Pv) (W : List (List Int)) : Sto := S.set k (dkV P) ++ [ltV W]
theorem pst_k {S : Sto} {k : Nat} {P : Pv} {W : List (List Int)} (h : k < S.length) : (pst S k P W)[k]? = some (dkV P) := by
  rw [List.getElem?_append_left (by rw [List.length_set]; exact h), List.getElem?_set_self h]
theorem pst_m {S : Sto} {k : Nat} {P : Pv} {W : List (List Int)} : (pst S k P W)[S.length]? = some (ltV W) := by
  rw [List.getElem?_append_right (by rw [List.length_set]; exact Nat.le_refl _), List.length_set, Nat.sub_self]
  rfl
theorem pst_set {S : Sto} {k : Nat} {P P' : Pv} {W W' : List (List Int)} (h : k < S.length) : up2 (pst S k P W) k S.length P' W' = pst S k P' W' := by
  show ((S.set k (dkV P) ++ [ltV W]).set k (dkV P')).set S.length (ltV W') = S.set k (dkV P') ++ [ltV W']
  rw [List.set_append_left _ _ (by rw [List.length_set]; exact h), List.set_set, List.set_append_right _ _ (by rw [List.length_set]; exact Nat.le_refl _), List.length_set, Nat.sub_self]
  rfl
theorem pst_pop {S : Sto} {k : Nat} {P : Pv} {W W' : List (List Int)} : (pst S k P W).set S.length (ltV W') = pst S k P W' := by
  show (S.set k (dkV P) ++ [ltV W]).set S.length (ltV W') = _
  rw [List.set_append_right _ _ (by rw [List.length_set]; exact Nat.le_refl _), List.length_set, Nat.sub_self]
  rfl
theorem colP_cons (M : Int) (a : Nat) (as : List Nat) (r : List Int) (P : Pv) (W : List (List Int)) : colP M (a :: as) r P W = if Md.ent r a ≠ 0 then colP M as (passP M P r a).1 (passP M P r a).2.1 (W ++ (passP M P r a).2.2) else colP M as r P W := rfl
theorem f_neN {S : Sto} {x : Vl} {xs : List Vl} (h : look S x = .lst xs) : neNF S x (.lst []) = some (.bl (!xs.isEmpty)) := by
  unfold neNF
  rw [h]
  rfl
theorem putL_some {M : Int} {n f : Nat} {P : Pv} {W : List (List Int)} {r : List Int} (h : W.getLast? = some r) : putL M n (f + 1) P W = putL M n f (colP M (List.range' 0 n) r P W.dropLast).2.1 (colP M (List.range' 0 n) r P W.dropLast).2.2 := by
  show (match W.getLast? with | none => P | some r => _) = _
  rw [h]
def putBody : SM := (seqS (setS 1 (popE 2))
  (forS (rngI (consA (fldM 0 "wide" (varM 0)) nilA)) (tfN 3)
  (ifS (tv (bin2 neF (bin2 ixF (varM 1) (varM 3)) (cM (.int 0))))
  (setS 1 (methM 0 "passed" m_Stair_passed (varM 0) (consA (varM 1) (consA (varM 3) (consA (varM 2) nilA)))))
  nilS)))
theorem put_turn {w n k : Nat} {P : Pv} {W : List (List Int)} {r : List Int} {S : Sto} {s1 s3 : Sv} (hw : w ≤ 64) (hk : k < S.length) (I : PInv w n (getP P) W) (hK : KInv n P) (hn : n < 1000000) (hlast : W.getLast? = some r) (hl : Phi (phi w (getP P)) n + W.length < 16777216) :
    Ret (putBody [.v (stV w n k), s1, .v (.ref S.length), s3] (pst S k P W)) fun fl S1 => ∃ s1' s3', fl = .nx [.v (stV w n k), s1', .v (.ref S.length), s3'] ∧ KInv n (colP (2 ^ w) (List.range' 0 n) r P W.dropLast).2.1 ∧
      S1 = pst S k (colP (2 ^ w) (List.range' 0 n) r P W.dropLast).2.1 (colP (2 ^ w) (List.range' 0 n) r P W.dropLast).2.2 := by
  have hm := last_mem hlast
  have I1 := I.mem hm
  have hlen : W.length = W.dropLast.length + 1 := by
    obtain ⟨_, h2⟩ := List.getLast?_eq_some_iff.mp hlast
    rw [h2]; simp
  unfold putBody
  /- b_Stair_put -/
  walk_at "wp"
  refine ⟨S.length, W.map tupI, tupI r, rfl, pst_m, ?_, ?_⟩
  · rw [List.length_map, List.getElem?_map, ← List.getLast?_eq_getElem?, hlast]
    rfl
  have e1 : (W.map tupI).dropLast = W.dropLast.map tupI := by rw [List.map_dropLast]
  rw [e1]
  rw [show (pst S k P W).set S.length (Vl.lst (W.dropLast.map tupI)) = pst S k P W.dropLast from pst_pop]
  walk_at "wp"
  refine ⟨by omega, ?_⟩
  rw [Int.toNat_natCast]
  refine (loop_ret (fun i env S' => ∃ r' P' W' s3, env = [.v (stV w n k), .v (tupI r'), .v (.ref S.length), s3] ∧ S' = pst S k P' W' ∧ PInv w n (getP P') (r' :: W') ∧ Zb i r' ∧ KInv n P' ∧ Phi (phi w (getP P')) n + W'.length < 16777216 ∧ i ≤ n ∧
    colP (2 ^ w) (List.range' i (n - i)) r' P' W' = colP (2 ^ w) (List.range' 0 n) r P W.dropLast) _ 0 _ _ ⟨r, P, W.dropLast, s3, rfl, rfl, I1, (fun j hj => by omega), hK, by omega, Nat.zero_le _, rfl⟩ ?_).mono ?_
  · rintro i x env S1 hx ⟨r', P', W', s3, rfl, rfl, I', hz, hK', hl', hin, hcol⟩
    rw [Nat.zero_add] at hz hin hcol ⊢
    have hi : i < n := by
      have := (List.getElem?_eq_some_iff.mp hx).1
      rwa [rgI_length] at this
    rw [rgI_get hi, Int.zero_add] at hx
    cases hx
    have hri : i < r'.length := by rw [(I'.lrw r' (List.mem_cons_self ..)).len]; exact hi
    have hnx : List.range' i (n - i) = i :: List.range' (i + 1) (n - (i + 1)) := by
      rw [show n - i = n - (i + 1) + 1 from by omega, List.range'_succ]
    refine ⟨_, rfl, ?_⟩
    walk_at "wp"
    refine ⟨_, ix_row hri, ?_⟩
    walk_at "wp"
    refine ⟨fun h1 => ?_, fun h1 => ?_⟩
    · have h0 : Md.ent r' i ≠ 0 := by
        intro z
        rw [z] at h1
        cases h1
      walk_at "wp"
      refine (passed_ok hw (pst_k hk) pst_m (by omega) I' hK' hn hi hz h0 (by omega)).mono ?_
      rintro _ S1 ⟨rfl, rfl⟩
      rw [pst_set hk]
      have st := pass_ok hw I' hi hz h0
      have hms := st.meas
      refine ⟨_, .inl rfl, _, _, _, _, rfl, rfl, st.inv, st.zb, hK'.pass hi _ _, by rw [List.length_append]; omega, hi, ?_⟩
      rw [← hcol, hnx, colP_cons, if_pos h0]
    · have h0 : Md.ent r' i = 0 := by
        by_cases q : Md.ent r' i = 0
        · exact q
        · exact absurd (bne_iff_ne.mpr q) (by rw [show (Md.ent r' i != 0) = false from h1]; decide)
      walk_at "wp"
      refine ⟨_, .inl rfl, _, _, _, _, rfl, rfl, I', (fun j hj => ?_), hK', hl', hi, ?_⟩
      · by_cases hji : j = i
        · rw [hji]; exact h0
        · exact hz j (by omega)
      · rw [← hcol, hnx, colP_cons, if_neg (fun z => z h0)]
  · rintro _ S1 ⟨e, rfl, r', P', W', s3, rfl, rfl, I', hz, hK', hl', hin, hcol⟩
    rw [rgI_length, Nat.zero_add, Nat.sub_self] at hcol
    rw [← hcol]
    exact ⟨_, _, rfl, hK', rfl⟩
/- b_Stair_put -/
theorem put_ok {w n k : Nat} {P : Pv} {r : List Int} {S : Sto} (hw : w ≤ 64) (hk : S[k]? = some (dkV P)) (I : PInv w n (getP P) []) (hK : KInv n P) (hn : n < 1000) (hr : Rw (2 ^ w) n r) :
    Ret (m_Stair_put [stV w n k, tupI r] S) fun v S1 => v = .non ∧ KInv n (putL (2 ^ w) n 100000 P [r]) ∧ S1 = pst S k (putL (2 ^ w) n 100000 P [r]) [] := by
  have hkl : k < S.length := (List.getElem?_eq_some_iff.mp hk).1
  have hphi : Phi (phi w (getP P)) n + 1 < 100000 := by
    have h1 := I.phi_le
    have h2 : n * w ≤ 1000 * 64 := Nat.mul_le_mul (by omega) hw
    omega
  unfold m_Stair_put b_Stair_put
  refine w_run ?_
  refine w_qnew ?_
  walk_at "wp"
  have e0 : S ++ [Vl.lst [tupI r]] = pst S k P [r] := by
    show _ = S.set k (dkV P) ++ _
    rw [set_same hk]
    rfl
  rw [e0]
  refine while_ret (fun f env S' => ∃ P' W' s1 s3, env = [.v (stV w n k), s1, .v (.ref S.length), s3] ∧ S' = pst S k P' W' ∧ PInv w n (getP P') W' ∧ KInv n P' ∧ Phi (phi w (getP P')) n + W'.length < f ∧ f ≤ 100000 ∧ putL (2 ^ w) n f P' W' = putL (2 ^ w) n 100000 P [r]) ?_ ?_ 100000 _ _ ⟨P, [r], .v (tupI r), .un, rfl, rfl, I.push hr, hK, hphi, Nat.le_refl _, rfl⟩
  · rintro env S' ⟨P', W', s1, s3, _, _, _, _, h, _⟩
    omega
  · rintro f env S' ⟨P', W', s1, s3, rfl, rfl, I', hK', hm, hf, hput⟩
    walk_at "wp"
    refine ⟨_, f_neN (look_r pst_m), _, rfl, fun h1 => ?_, fun h1 => ?_⟩
    · cases hlast : W'.getLast? with
      | none =>
        rw [List.getLast?_eq_none_iff.mp hlast] at h1
        cases h1
      | some r' =>
        refine (put_turn hw hkl I' hK' (by omega) hlast (by omega)).mono ?_
        rintro fl S1 ⟨s1', s3', rfl, hK2, rfl⟩
        obtain ⟨i1, i2, i3, i4⟩ := col_ok hw n 0 r' P' W'.dropLast (by omega) (I'.mem (last_mem hlast)) (fun j hj => by omega)
        have hlen : W'.length = W'.dropLast.length + 1 := by
          obtain ⟨_, h2⟩ := List.getLast?_eq_some_iff.mp hlast
          rw [h2]; simp
        exact ⟨_, .inl rfl, _, _, _, _, rfl, rfl, i1.drop i2, hK2, by omega, by omega, by rw [← hput, putL_some hlast]⟩
    · have hW : W' = [] := by
        cases W' with
        | nil => rfl
        | cons a W' => cases h1
      subst hW
      have e : P' = putL (2 ^ w) n 100000 P [r] := by rw [← hput]; rfl
      rw [← e]
      exact ⟨rfl, hK', rfl⟩
end G11

set_option Elab.async false
set_option linter.all false
set_option maxRecDepth 100000
set_option autoImplicit false
set_option maxHeartbeats 1000000
namespace G11
open PySem PySem.Spec L2 Dm Md
local macro_rules | `(tactic| walk_at "wp") => `(tactic| (repeat (first | ((with_reducible apply w_var); exact rfl) | with_reducible refine w_c ?_ | with_reducible refine w_bin ?_ | with_reducible refine w_cons ?_ | with_reducible refine w_nil ?_ | with_reducible refine w_newR ?_ | with_reducible refine w_make ?_ | with_reducible refine w_meth ?_ | with_reducible refine w_seqI ?_ | with_reducible refine w_assoc ?_ | with_reducible refine w_qnil ?_ | with_reducible refine w_qset ?_ | with_reducible refine w_qexpr ?_ | with_reducible refine w_qret ?_ | with_reducible refine w_qsf2 ?_ | with_reducible refine w_sf2 ?_ | with_reducible refine w_qfor ?_ | with_reducible refine w_for ?_ | with_reducible refine w_nilS ?_ | with_reducible refine w_ret ?_ | with_reducible refine w_set ?_ | with_reducible refine w_expr ?_ | with_reducible refine ⟨_, seqQ, ?_⟩ | with_reducible refine ⟨_, _, rfl, seqQ, ?_⟩ | with_reducible refine ⟨_, _, rfl, rfl, ?_⟩ | with_reducible refine ⟨_, _, _, rfl, rfl, ?_⟩ | with_reducible refine ⟨_, _, _, _, rfl, rfl, rfl, ?_⟩ | ((with_reducible refine ⟨_, f_shl ?_, ?_⟩); (first | omega | decide)) | with_reducible refine w_dNew ?_ | with_reducible refine ⟨_, rfl, ?_⟩ | with_reducible refine ret_ok.mpr ?_ | refine w_yes rfl ?_ | refine w_no rfl ?_ | ((with_reducible refine w_yes (decide_eq_true ?_) ?_); omega) | ((with_reducible refine w_no (decide_eq_false ?_) ?_); omega) | ((with_reducible refine w_nyes ?_ ?_); omega) | ((with_reducible refine w_nno ?_ ?_); omega))))
abbrev stS (S : Sto) (P : Pv) (i : Nat) : Sto := S ++ [dkV P] ++ List.replicate i (ltV [])
theorem stS_k {S : Sto} {P : Pv} {i : Nat} : (stS S P i)[S.length]? = some (dkV P) := by
  rw [List.getElem?_append_left (by simp), List.getElem?_append_right (Nat.le_refl _), Nat.sub_self]
  rfl
theorem stS_put {S : Sto} {P P' : Pv} {i : Nat} : pst (stS S P i) S.length P' [] = stS S P' (i + 1) := by
  show (S ++ [dkV P] ++ List.replicate i (ltV [])).set S.length (dkV P') ++ [ltV []] = S ++ [dkV P'] ++ List.replicate (i + 1) (ltV [])
  rw [List.set_append_left _ _ (by simp), List.set_append_right _ _ (Nat.le_refl _), Nat.sub_self, List.append_assoc, ← List.replicate_succ']
  rfl
theorem shl_ok {w : Nat} {S : Sto} (hw : w ≤ 64) : shlF S (.int 1) (.int w) = some (.int (2 ^ w)) := by
  rw [f_shl ⟨by omega, by omega, by decide⟩, Int.toNat_natCast, Int.one_mul]
theorem init_ok {w n : Nat} {S : Sto} (hw : w ≤ 64) : m_Stair___init__ 0 [.int w, .int n] S = .ok (stV w n S.length) (S ++ [.dk [] []]) := by
  have e : bin2 shlF (cM (.int 1)) (varM 1) (startI N_Stair___init__.length 0 0 [.int w, .int n]) S = .ok (.int (2 ^ w)) S := by
    show (match shlF S (.int 1) (.int w) with | some v => Res.ok v S | none => .bad) = _
    rw [shl_ok hw]
  unfold m_Stair___init__ runI b_Stair___init__
  unfold seqS sfS
  rw [e]
  rfl
/- b_stair_of b_Stair___init__ -/
theorem stair_ok' {w n : Nat} {rows : List (List Int)} {S : Sto} (hw : w ≤ 64) (hn : n < 1000) (hr : ∀ r ∈ rows, Rw (2 ^ w) n r) :
    Ret (m_stair_of [.int w, .int n, .lst (rows.map tupI)] S) fun v S1 => v = stV w n S.length ∧ KInv n (stairP (2 ^ w) n 100000 rows []) ∧ S1 = stS S (stairP (2 ^ w) n 100000 rows []) rows.length := by
  unfold m_stair_of b_stair_of
  refine w_run ?_
  walk_at "wp"
  rw [init_ok hw]
  walk_at "wp"
  have e0 : S ++ [Vl.dk [] []] = stS S [] 0 := by
    show _ = S ++ [dkV []] ++ []
    rw [List.append_nil]
    rfl
  rw [e0]
  refine (loop_ret (fun i env S' => ∃ P s4, env = [.v (.int w), .v (.int n), .v (.lst (rows.map tupI)), .v (stV w n S.length), s4] ∧ S' = stS S P i ∧ PInv w n (getP P) [] ∧ KInv n P ∧ i ≤ rows.length ∧ stairP (2 ^ w) n 100000 (rows.drop i) P = stairP (2 ^ w) n 100000 rows []) _ 0 _ _
    ⟨[], .un, rfl, rfl, pinv_nil, ⟨List.nodup_nil, fun a h => by cases h⟩, Nat.zero_le _, rfl⟩ ?_).mono ?_
  · rintro i x env S1 hx ⟨P, s4, rfl, rfl, I, hK, hi, hst⟩
    rw [Nat.zero_add] at hi hst ⊢
    obtain ⟨r, hri, rfl⟩ := map_at hx
    have hil : i < rows.length := (List.getElem?_eq_some_iff.mp hri).1
    have hrow := hr r (List.mem_of_getElem? hri)
    have hd : rows.drop i = r :: rows.drop (i + 1) := by
      rw [List.drop_eq_getElem_cons hil]
      congr 1
      exact Option.some.inj ((List.getElem?_eq_getElem hil).symm.trans hri)
    refine ⟨_, rfl, ?_⟩
    walk_at "wp"
    refine (put_ok hw stS_k I hK hn hrow).mono ?_
    rintro _ S1 ⟨rfl, hK2, rfl⟩
    rw [stS_put]
    have hphi : Phi (phi w (getP P)) n + 1 < 100000 := by
      have h1 := I.phi_le
      have h2 : n * w ≤ 1000 * 64 := Nat.mul_le_mul (by omega) hw
      omega
    have hp := putL_ok hw 100000 P [r] (by rw [List.length_singleton]; exact hphi) (I.push hrow)
    exact ⟨_, .inl rfl, _, _, rfl, rfl, hp.1, hK2, hil, by rw [← hst, hd]; rfl⟩
  · rintro _ S1 ⟨e, rfl, P, s4, rfl, rfl, I, hK, hi, hst⟩
    rw [Nat.zero_add, List.length_map, List.drop_length] at hst
    have hst : P = stairP (2 ^ w) n 100000 rows [] := hst
    walk_at "wp"
    rw [← hst]
    refine ⟨rfl, hK, ?_⟩
    rw [Nat.zero_add, List.length_map]
/-! ### what is left of a row -/
def cols (P : Pv) : List Nat := isortB (fun a => (a : Int)) (P.map (·.1))
theorem cols_mem {P : Pv} {a : Nat} : a ∈ cols P ↔ getP P a ≠ none := by
  rw [getP_key]
  exact (isortB_perm _).mem_iff
theorem cols_lt {n : Nat} {P : Pv} (h : KInv n P) : (cols P).Pairwise (· < ·) := by
  have h1 : (cols P).Pairwise (fun (a b : Nat) => (a : Int) ≤ b) := isortB_sorted _
  have h2 : (cols P).Nodup := (isortB_perm _).nodup_iff.mpr h.nd
  refine (h1.and h2).imp fun {a b} ⟨q1, q2⟩ => ?_
  omega
theorem sort_cols (P : Pv) : isort ((P.map (·.1)).map fun a : Nat => (a : Int)) = (cols P).map fun a : Nat => (a : Int) := by
  refine sorted_uniq ((isort_perm _).trans ((isortB_perm _).map _).symm) (isort_sorted _) ?_
  rw [List.pairwise_map]
  exact isortB_sorted _
theorem intKs_nat : ∀ l : List Nat, intKs (l.map fun a : Nat => (.inl (a : Int) : L2.Key)) = some (l.map fun a : Nat => (a : Int))
  | [] => rfl
  | a :: l => by
    rw [List.map_cons]
    unfold intKs
    rw [intKs_nat l]
    rfl
theorem f_sortD {n : Nat} {P : Pv} {S : Sto} {k : Nat} (hk : S[k]? = some (dkV P)) (h : KInv n P) (hn : n < 64) : sortDF S [.ref k] = some (.lst ((cols P).map fun a : Nat => .int (a : Int))) := by
  unfold sortDF
  dsimp only
  rw [look_r hk]
  unfold dkV
  dsimp only
  have e : (P.map fun p => (.inl (p.1 : Int) : L2.Key)) = (P.map (·.1)).map fun a : Nat => (.inl (a : Int) : L2.Key) := by rw [List.map_map]; rfl
  rw [e, intKs_nat]
  dsimp only
  rw [if_pos (by rw [List.length_map, List.length_map]; have := h.len; omega), sort_cols, List.map_map]
  rfl
theorem ix_piv {P : Pv} {p : List Int} {S : Sto} {k a : Nat} (hk : S[k]? = some (dkV P)) (hg : getP P a = some p) : ixF S (.ref k) (.int a) = some (tupI p) := by
  unfold ixF
  rw [look_r hk]
  unfold dkV
  show (dkGet _ _ (.inl (a : Int))) = _
  rw [dk_get, hg]
  rfl
end G11

set_option Elab.async false
set_option linter.all false
set_option maxRecDepth 100000
set_option autoImplicit false
set_option maxHeartbeats 1000000
namespace G11
open PySem PySem.Spec L2 Dm Md
local macro_rules | `(tactic| walk_at "wp") => `(tactic| (repeat (first | ((with_reducible apply w_var); exact rfl) | with_reducible refine w_c ?_ | with_reducible refine w_bin ?_ | with_reducible refine w_un ?_ | with_reducible refine w_cB ?_ | with_reducible refine w_tv ?_ | with_reducible refine w_cons ?_ | with_reducible refine w_nil ?_ | with_reducible refine w_call ?_ | with_reducible refine w_orT ?_ | with_reducible refine w_notT ?_ | with_reducible refine w_andV ?_ | with_reducible refine w_notV ?_ | with_reducible refine w_ch ?_ | with_reducible refine w_isi ?_ | with_reducible refine w_seqI ?_ | with_reducible refine w_enI ?_ | ((with_reducible apply w_comp); exact rfl) | with_reducible refine w_assoc ?_ | with_reducible refine w_qnil ?_ | with_reducible refine w_qexpr ?_ | with_reducible refine w_qret ?_ | with_reducible refine w_qif ?_ | with_reducible refine w_qfor ?_ | with_reducible refine w_for ?_ | with_reducible refine w_nilS ?_ | with_reducible refine w_ret ?_ | with_reducible refine w_ifS ?_ | with_reducible refine w_expr ?_ | with_reducible refine ⟨_, f_neg, ?_⟩ | with_reducible refine ⟨_, f_cmp, ?_⟩ | with_reducible refine ⟨_, f_eqI, ?_⟩ | with_reducible refine ⟨_, f_int, ?_⟩ | with_reducible refine ⟨_, f_intB, ?_⟩ | with_reducible refine ⟨_, f_lenL, ?_⟩ | with_reducible refine ⟨_, f_lenT, ?_⟩ | with_reducible refine ⟨_, f_tupL, ?_⟩ | with_reducible refine ⟨_, f_tupT, ?_⟩ | with_reducible refine ⟨_, f_all, ?_⟩ | with_reducible refine ⟨_, f_lenQ, ?_⟩ | with_reducible refine ⟨_, tyQ, ?_⟩ | with_reducible refine ⟨_, seqQ, ?_⟩ | with_reducible refine ⟨_, tupQ, ?_⟩ | with_reducible refine ⟨_, _, rfl, seqQ, ?_⟩ | with_reducible refine ⟨_, _, rfl, rfl, ?_⟩ | with_reducible refine ⟨_, _, _, rfl, rfl, ?_⟩ | with_reducible refine ⟨_, _, _, _, rfl, rfl, rfl, ?_⟩ | ((with_reducible refine ⟨_, f_mod ?_, ?_⟩); (first | assumption | omega | decide)) | ((with_reducible refine ⟨_, f_shl ?_, ?_⟩); (first | omega | decide)) | with_reducible refine ⟨_, rfl, ?_⟩ | ((with_reducible refine ⟨_, f_lenS ?_, ?_⟩); omega) | with_reducible refine ret_ok.mpr ?_ | refine w_yes rfl ?_ | refine w_no rfl ?_ | ((with_reducible refine w_yes (decide_eq_true ?_) ?_); omega) | ((with_reducible refine w_no (decide_eq_false ?_) ?_); omega) | ((with_reducible refine w_nyes ?_ ?_); omega) | ((with_reducible refine w_nno ?_ ?_); omega))))
/-! ### rows as they are handed in -/
/-- a row as a list or a tuple -/
def rowE (t : Bool × List Int) : Vl := if t.1 then .tup (t.2.map .int) else .lst (t.2.map .int)
/-- rows as a list or a tuple -/
def rowsE (b : Bool) (ts : List (Bool × List Int)) : Vl := if b then .tup (ts.map rowE) else .lst (ts.map rowE)
def redL (M : Int) (r : List Int) : List Int := r.map fun x => x % M
theorem seq_rowE (t : Bool × List Int) : seqOf (rowE t) = some (t.2.map .int) := by
  unfold rowE
  cases t.1 <;> rfl
theorem seq_rowsE (b : Bool) (ts : List (Bool × List Int)) : seqOf (rowsE b ts) = some (ts.map rowE) := by
  unfold rowsE
  cases b <;> rfl
theorem rw_red {M : Int} {n : Nat} {r : List Int} (hM : 0 < M) (h : r.length = n) : Rw M n (redL M r) := ⟨by unfold redL; rw [List.length_map, h], fun k hk => by
  have e : Md.ent (redL M r) k = Md.ent r k % M := by
    unfold redL Md.ent
    rw [List.getD_eq_getElem?_getD, List.getD_eq_getElem?_getD, List.getElem?_map, List.getElem?_eq_getElem (by omega)]
    rfl
  rw [e]
  exact ⟨Int.emod_nonneg _ (by omega), Int.emod_lt_of_pos _ hM⟩⟩
/- b_are_many_ints b_is_int b_is_from b_check_sizes -/
theorem int_ok {x : Int} {S : Sto} : m_is_int [.int x] S = .ok (.bl true) S := by kernel_rfl
theorem from_ok {x : Int} {S : Sto} (h0 : 1 ≤ x) (h1 : x ≤ 64) : Ret (m_is_from [.int x, .int 1, .int 64] S) fun v S1 => v = .bl true ∧ S1 = S := by
  unfold m_is_from b_is_from
  refine w_run ?_
  walk_at "wp"
  rw [int_ok]
  walk_at "wp"
  exact ⟨by rw [decide_eq_true h1], rfl⟩
theorem sizes_ok {w n : Nat} {S : Sto} (h0 : 1 ≤ w) (hw : w ≤ 64) : Ret (m_check_sizes [.int w, .int n] S) fun v S1 => v = .non ∧ S1 = S := by
  unfold m_check_sizes b_check_sizes
  refine w_run ?_
  walk_at "wp"
  refine (from_ok (by omega) (by omega)).mono ?_
  rintro _ S ⟨rfl, rfl⟩
  refine ⟨true, rfl, (fun z => by cases z), fun _ => ?_⟩
  walk_at "wp"
  rw [int_ok]
  walk_at "wp"
  exact ⟨rfl, rfl⟩
theorem all_true (r : List Int) : (r.map fun _ => true).all id = true := by
  rw [List.all_map]
  exact List.all_eq_true.mpr fun x _ => rfl
theorem many_ok {t : Bool × List Int} {n : Nat} {S : Sto} (h : t.2.length = n) : Ret (m_are_many_ints [rowE t, .int n] S) fun v S1 => v = .bl true ∧ S1 = S := by
  obtain ⟨b, r⟩ := t
  have hl : (r.map Vl.int).length = n := by rw [List.length_map]; exact h
  unfold m_are_many_ints b_are_many_ints
  refine w_run ?_
  cases b
  · show Ret (retS _ (startE N_are_many_ints.length [.lst (r.map .int), .int n]) S) _
    walk_at "wp"
    refine comp_bools Vl.int (fun _ => true) r (fun x hx => ⟨_, rfl, ?_⟩) ?_
    · walk_at "wp"
      rw [int_ok]
      exact ⟨_, _, rfl, rfl, rfl⟩
    · walk_at "wp"
      refine ⟨_, f_allB, ?_, rfl⟩
      rw [all_true]
  · show Ret (retS _ (startE N_are_many_ints.length [.tup (r.map .int), .int n]) S) _
    walk_at "wp"
    refine comp_bools Vl.int (fun _ => true) r (fun x hx => ⟨_, rfl, ?_⟩) ?_
    · walk_at "wp"
      rw [int_ok]
      exact ⟨_, _, rfl, rfl, rfl⟩
    · walk_at "wp"
      refine ⟨_, f_allB, ?_, rfl⟩
      rw [all_true]
/- b_reduced_row b_reduced_rows -/
theorem shw {w : Nat} : (1 : Int) * 2 ^ (w : Int).toNat = 2 ^ w := by rw [Int.toNat_natCast, Int.one_mul]
theorem red_comp {r : List Int} {w : Nat} {S : Sto} {QA : List Vl → Sto → Prop} {env : List Sv} {te : EM} {f : TF} (h : ∀ x ∈ r, ∃ env1, f (.int x) env = some env1 ∧ Ret (te env1 S) fun y S1 => y = .int (x % 2 ^ w) ∧ S1 = S) (q : QA ((redL (2 ^ w) r).map .int) S) : Ret (compL f yesT te env (r.map .int) S) QA := by
  refine comp_pure Vl.int (fun x => .int (x % 2 ^ w)) r h ?_
  unfold redL at q
  rw [List.map_map] at q
  exact q
def AllLen (n : Nat) (ts : List (Bool × List Int)) : Prop := ∀ t ∈ ts, t.2.length = n
theorem rows_ok {b : Bool} {ts : List (Bool × List Int)} {w n : Nat} {S : Sto} {x : Vl} (h0 : 1 ≤ w) (hw : w ≤ 64) (h : AllLen n ts) :
    Ret (m_reduced_rows [.int w, .int n, rowsE b ts, x] S) fun v S1 => v = .lst ((ts.map fun t => redL (2 ^ w) t.2).map tupI) ∧ S1 = S := by
  have hM := two_pow_pos w
  unfold m_reduced_rows b_reduced_rows
  refine w_run ?_
  walk_at "wp"
  refine (sizes_ok h0 hw).mono ?_
  rintro _ S ⟨rfl, rfl⟩
  walk_at "wp"
  refine ⟨if b then .tup else .lst, by cases b <;> rfl, true, by cases b <;> rfl, (fun z => by cases z), fun _ => ?_⟩
  walk_at "wp"
  refine ⟨_, _, rfl, seq_rowsE b ts, ?_⟩
  refine (loop_ret (fun i env S' => S' = S ∧ ∃ s4 s5 : Sv, (s5 = .un ∨ ∃ z, s5 = .v z) ∧ env = [.v (.int w), .v (.int n), .v (rowsE b ts), .v x, s4, s5, .un]) _ 0 _ _ ⟨rfl, .un, .un, .inl rfl, rfl⟩ ?_).mono ?_
  · rintro i y env S1 hx ⟨rfl, s4, s5, h5, rfl⟩
    obtain ⟨z, hz, rfl⟩ := enL_at hx
    obtain ⟨t, ht, rfl⟩ := map_at hz
    refine ⟨_, rfl, ?_⟩
    walk_at "wp"
    refine (many_ok (h t (List.mem_of_getElem? ht))).mono ?_
    rintro _ S1 ⟨rfl, rfl⟩
    refine ⟨true, rfl, (fun z => by cases z), fun _ => ?_⟩
    walk_at "wp"
    exact ⟨_, .inl rfl, rfl, _, _, .inr ⟨_, rfl⟩, rfl⟩
  · rintro _ S1 ⟨e, rfl, rfl, s4, s5, h5, rfl⟩
    walk_at "wp"
    refine w_comp (env1 := [.v (.int w), .v (.int n), .v (rowsE b ts), .v x, s4, .un, .un]) (by rcases h5 with rfl | ⟨z, rfl⟩ <;> rfl) ?_
    walk_at "wp"
    refine ⟨_, seq_rowsE b ts, ?_⟩
    refine comp_pure rowE (fun t => tupI (redL (2 ^ w) t.2)) ts (fun t ht => ⟨_, rfl, ?_⟩) ?_
    · walk_at "wp"
      refine ⟨_, seq_rowE t, ?_⟩
      refine red_comp (w := w) (fun x hx => ⟨_, rfl, ?_⟩) ?_
      · walk_at "wp"
        rw [shw]
        refine ⟨_, f_mod hM, ?_⟩
        exact ⟨rfl, rfl⟩
      · walk_at "wp"
        exact ⟨rfl, rfl⟩
    · rw [List.map_map]
      exact ⟨rfl, rfl⟩
end G11

set_option Elab.async false
set_option linter.all false
set_option maxRecDepth 100000
set_option autoImplicit false
set_option maxHeartbeats 1000000
namespace G11
open PySem PySem.Spec L2 Dm Md
/-! ### all sums -/
theorem rw_bd {M : Int} {n : Nat} {r : List Int} (h : Rw M n r) : TS.Bd M r := fun m hm => by
  obtain ⟨k, hk⟩ := List.getElem?_of_mem hm
  have hl := (List.getElem?_eq_some_iff.mp hk).1
  have b := h.bd k (by rw [← h.len]; exact hl)
  have e : Md.ent r k = m := by
    show r.getD k 0 = m
    rw [List.getD_eq_getElem?_getD, hk]
    rfl
  rwa [e] at b
theorem rw_inj {M : Int} {n : Nat} {x y : List Int} (hx : Rw M n x) (hy : Rw M n y) (h : ∀ k, k < n → Md.ent x k = Md.ent y k) : x = y := by
  refine List.ext_getElem? fun k => ?_
  by_cases hk : k < n
  · have e := h k hk
    have e1 : x.getD k 0 = y.getD k 0 := e
    rw [List.getD_eq_getElem?_getD, List.getD_eq_getElem?_getD, List.getElem?_eq_getElem (by rw [hx.len]; exact hk), List.getElem?_eq_getElem (by rw [hy.len]; exact hk)] at e1
    rw [List.getElem?_eq_getElem (by rw [hx.len]; exact hk), List.getElem?_eq_getElem (by rw [hy.len]; exact hk)]
    exact congrArg some e1
  · rw [List.getElem?_eq_none (by rw [hx.len]; omega), List.getElem?_eq_none (by rw [hy.len]; omega)]
/-- rows that differ are few -/
theorem rows_few {M : Int} {n : Nat} {l : List (List Int)} (hd : l.Nodup) (h : ∀ x ∈ l, Rw M n x) : l.length ≤ (M ^ n).toNat := by
  have key := nodup_len (M ^ n).toNat (l.map fun x => (TS.code M x).toNat) ?_ ?_
  · rwa [List.length_map] at key
  · refine List.Pairwise.map _ ?_ (hd.imp_of_mem (S := fun a b => a ≠ b ∧ a ∈ l ∧ b ∈ l) fun {a b} ha hb hab => ⟨hab, ha, hb⟩)
    rintro a b ⟨hab, ha, hb⟩ e
    have c1 := TS.code_bd a (rw_bd (h a ha))
    have c2 := TS.code_bd b (rw_bd (h b hb))
    exact hab (code_inj ((h a ha).len.trans (h b hb).len.symm) (rw_bd (h a ha)) (rw_bd (h b hb)) (by omega))
  · intro a ha
    obtain ⟨x, hx, rfl⟩ := List.mem_map.mp ha
    have c1 := TS.code_bd x (rw_bd (h x hx))
    rw [(h x hx).len] at c1
    omega
/-- the sum that is put in -/
def stepL (x r : List Int) (f M : Int) : List Int := (x.zip r).map fun p => (p.1 + f * p.2) % M
theorem step_rw {M : Int} {n : Nat} {x r : List Int} {f : Int} (hM : 0 < M) (hx : x.length = n) (hr : r.length = n) : Rw M n (stepL x r f M) ∧ ∀ k, k < n → M ∣ Md.ent (stepL x r f M) k - (Md.ent x k + f * Md.ent r k) := by
  have e : ∀ k, k < n → Md.ent (stepL x r f M) k = (Md.ent x k + f * Md.ent r k) % M := fun k hk => by
    show (stepL x r f M).getD k 0 = (x.getD k 0 + f * r.getD k 0) % M
    unfold stepL
    rw [List.getD_eq_getElem?_getD, List.getD_eq_getElem?_getD, List.getD_eq_getElem?_getD, List.getElem?_map, (List.getElem?_zip_eq_some (z := (x[k], r[k]))).mpr ⟨List.getElem?_eq_getElem (by omega), List.getElem?_eq_getElem (by omega)⟩, List.getElem?_eq_getElem (by omega), List.getElem?_eq_getElem (by omega)]
    rfl
  refine ⟨⟨by unfold stepL; rw [List.length_map, List.length_zip, hx, hr, Nat.min_self], fun k hk => ?_⟩, fun k hk => ?_⟩
  · rw [e k hk]
    exact ⟨Int.emod_nonneg _ (by omega), Int.emod_lt_of_pos _ hM⟩
  · rw [e k hk]
    exact emod_dv _ _
end G11

set_option Elab.async false
set_option linter.all false
set_option maxRecDepth 100000
set_option autoImplicit false
set_option maxHeartbeats 1000000
namespace G11
open PySem PySem.Spec L2 Dm Md
local macro_rules | `(tactic| walk_at "wp") => `(tactic| (repeat (first | ((with_reducible apply w_var); exact rfl) | ((with_reducible apply w_varO); exact rfl) | ((with_reducible apply w_varL); exact rfl) | with_reducible refine w_c ?_ | with_reducible refine w_bin ?_ | with_reducible refine w_cB ?_ | with_reducible refine w_cons ?_ | with_reducible refine w_nil ?_ | with_reducible refine w_tup ?_ | with_reducible refine w_seqI ?_ | with_reducible refine w_rng2 ?_ | with_reducible refine w_rng1 ?_ | with_reducible refine w_zpI ?_ | ((with_reducible apply w_comp); exact rfl) | with_reducible refine w_assoc ?_ | with_reducible refine w_qnil ?_ | with_reducible refine w_qown ?_ | with_reducible refine w_qret ?_ | with_reducible refine w_qfor ?_ | with_reducible refine w_for ?_ | with_reducible refine w_nilS ?_ | with_reducible refine w_ret ?_ | ((with_reducible refine ⟨_, f_mulTk ?_, ?_⟩); omega) | with_reducible refine ⟨_, f_add, ?_⟩ | with_reducible refine ⟨_, f_int, ?_⟩ | with_reducible refine ⟨_, f_intB, ?_⟩ | with_reducible refine ⟨_, f_tupL, ?_⟩ | with_reducible refine ⟨_, f_tupT, ?_⟩ | with_reducible refine ⟨_, seqQ, ?_⟩ | with_reducible refine ⟨_, tupQ, ?_⟩ | with_reducible refine ⟨_, _, rfl, seqQ, ?_⟩ | with_reducible refine ⟨_, _, rfl, rfl, ?_⟩ | with_reducible refine ⟨_, _, _, rfl, rfl, ?_⟩ | with_reducible refine ⟨_, _, _, _, rfl, rfl, rfl, ?_⟩ | ((with_reducible refine ⟨_, f_mod ?_, ?_⟩); (first | assumption | omega | decide)) | ((with_reducible refine ⟨_, f_mul ?_, ?_⟩); omega) | ((with_reducible refine ⟨_, f_shl ?_, ?_⟩); (first | omega | decide)) | with_reducible refine ⟨_, rfl, ?_⟩ | with_reducible refine ret_ok.mpr ?_ | refine w_yes rfl ?_ | refine w_no rfl ?_ | ((with_reducible refine w_yes (decide_eq_true ?_) ?_); omega) | ((with_reducible refine w_no (decide_eq_false ?_) ?_); omega) | ((with_reducible refine w_nyes ?_ ?_); omega) | ((with_reducible refine w_nno ?_ ?_); omega))))
def kI (x : List Int) : List L2.Key := x.map Sum.inl
/-- values without references -/
abbrev Tv := {vs : List Vl // rfBs 0 vs = true}
abbrev dV (nss : List (List Int)) (vs : Tv) : Vl := .dt (nss.map kI) vs.1
theorem rfBs_app : ∀ {xs ys : List Vl}, rfBs 0 xs = true → rfBs 0 ys = true → rfBs 0 (xs ++ ys) = true
  | [], _, _, h => h
  | x :: xs, ys, h, h2 => by
    rw [List.cons_append]
    unfold rfBs at h ⊢
    rw [Bool.and_eq_true] at h ⊢
    exact ⟨h.1, rfBs_app h.2 h2⟩
theorem rf_repl {k : List L2.Key} {x : Vl} (hx : rfB 0 x = true) : ∀ {ks : List (List L2.Key)} {xs : List Vl}, rfBs 0 xs = true → rfBs 0 (replT k x ks xs) = true
  | [], _, _ => rfl
  | _ :: _, [], _ => rfl
  | q :: ks, y :: xs, h => by
    unfold replT
    unfold rfBs at h ⊢
    rw [Bool.and_eq_true] at h ⊢
    refine ⟨?_, rf_repl hx h.2⟩
    split
    · exact hx
    · exact h.1
theorem rf_putT {ks : List (List L2.Key)} {xs : List Vl} {k : List L2.Key} {x : Vl} (hx : rfB 0 x = true) (h : rfBs 0 xs = true) : rfBs 0 (putT ks xs k x).2 = true := by
  unfold putT
  split
  · exact rf_repl hx h
  · exact rfBs_app h (by unfold rfBs; rw [hx]; rfl)
theorem keyVs_int : ∀ x : List Int, keyVs (x.map Vl.int) = some (kI x)
  | [] => rfl
  | a :: x => by
    rw [List.map_cons]
    unfold keyVs
    rw [keyVs_int x]
    rfl
theorem kI_inj {x y : List Int} (h : kI x = kI y) : x = y := by
  unfold kI at h
  exact (List.map_inj_right (fun a b e => by injection e)).mp h
def addN (nss : List (List Int)) (x : List Int) : List (List Int) := if x ∈ nss then nss else nss ++ [x]
theorem put_keys (nss : List (List Int)) (vs : Tv) (x : List Int) (v : Vl) : (putT (nss.map kI) vs (kI x) v).1 = (addN nss x).map kI := by
  have e : (((nss.map kI).any fun q => decide (q = kI x)) = true) ↔ x ∈ nss := by
    rw [List.any_map, List.any_eq_true]
    constructor
    · rintro ⟨y, hy, h⟩
      rw [← kI_inj (of_decide_eq_true h)]
      exact hy
    · intro h
      exact ⟨x, h, decide_eq_true rfl⟩
  unfold putT addN
  by_cases h : x ∈ nss
  · rw [if_pos (e.mpr h), if_pos h]
  · rw [if_neg (fun z => h (e.mp z)), if_neg h, List.map_append]
    rfl
theorem addN_mem {nss : List (List Int)} {x y : List Int} : y ∈ addN nss x ↔ y ∈ nss ∨ y = x := by
  unfold addN
  by_cases h : x ∈ nss
  · rw [if_pos h]
    exact ⟨.inl, fun z => z.elim id fun e => e ▸ h⟩
  · rw [if_neg h, List.mem_append, List.mem_singleton]
theorem addN_nd {nss : List (List Int)} {x : List Int} (h : nss.Nodup) : (addN nss x).Nodup := by
  unfold addN
  by_cases hx : x ∈ nss
  · rw [if_pos hx]; exact h
  · rw [if_neg hx, List.nodup_append]
    refine ⟨h, by simp, fun a ha b hb => ?_⟩
    have : b = x := by simpa using hb
    rw [this]
    exact fun z => hx (z ▸ ha)
def elBody : SM := (setDT 3 (cB tupF (consA (compM (zpI (consA (varM 6) (consA (varM 4) nilA))) [7, 8] (tfT (tfCons (tfN 7) (tfCons (tfN 8) tfNil))) yesT (bin2 modF (cB intF (consA (bin2 addF (varM 7) (bin2 mulF (varM 5) (varM 8))) nilA)) (bin2 shlF (cM (.int 1)) (varM 0)))) nilA)) (cM (.bl true)))
/- b__law_elements -/
theorem el_turn {w n : Nat} {rv : Vl} {nss : List (List Int)} {vs : Tv} {t : Bool × List Int} {x : List Int} {f : Int} {S : Sto} (hw : w ≤ 64) (hf : -(2 ^ 64) < f ∧ f < 2 ^ 64) (hl : nss.length < 16777216) :
    Ret (elBody [.v (.int w), .v (.int n), .v rv, .ow (dV nss vs), .v (rowE t), .v (.int f), .v (tupI x), .un, .un] S) fun fl S1 => ∃ vs', fl = .nx [.v (.int w), .v (.int n), .v rv, .ow (dV (addN nss (stepL x t.2 f (2 ^ w))) vs'), .v (rowE t), .v (.int f), .v (tupI x), .un, .un] ∧ S1 = S := by
  have hM := two_pow_pos w
  have key : Ret (cB tupF (consA (compM (zpI (consA (varM 6) (consA (varM 4) nilA))) [7, 8] (tfT (tfCons (tfN 7) (tfCons (tfN 8) tfNil))) yesT (bin2 modF (cB intF (consA (bin2 addF (varM 7) (bin2 mulF (varM 5) (varM 8))) nilA)) (bin2 shlF (cM (.int 1)) (varM 0)))) nilA) [.v (.int w), .v (.int n), .v rv, .ow (dV nss vs), .v (rowE t), .v (.int f), .v (tupI x), .un, .un] S) fun v S1 => v = tupI (stepL x t.2 f (2 ^ w)) ∧ S1 = S := by
    walk_at "wp"
    refine ⟨_, _, _, _, rfl, rfl, seq_rowE t, ?_⟩
    rw [zp_int]
    refine comp_pure (fun p : Int × Int => Vl.tup [.int p.1, .int p.2]) (fun p => .int ((p.1 + f * p.2) % 2 ^ w)) (x.zip t.2) (fun p hp => ⟨_, rfl, ?_⟩) ?_
    · walk_at "wp"
      rw [shw]
      refine ⟨_, f_mod hM, ?_⟩
      exact ⟨rfl, rfl⟩
    · walk_at "wp"
      refine ⟨?_, rfl⟩
      unfold tupI stepL
      rw [List.map_map]
      rfl
  refine w_setDT (ks := nss.map kI) (xs := vs.1) rfl ⟨_, _, rfl, key.mono ?_⟩
  rintro _ S ⟨rfl, rfl⟩
  refine ⟨_, _, rfl, keyVs_int _, by rw [List.length_map]; exact hl, ⟨(putT (nss.map kI) vs.1 (kI (stepL x t.2 f (2 ^ w))) (.bl true)).2, rf_putT rfl vs.2⟩, ?_, rfl⟩
  rw [put_keys]
  rfl
end G11

set_option Elab.async false
set_option linter.all false
set_option maxRecDepth 100000
set_option autoImplicit false
set_option maxHeartbeats 1000000
namespace G11
open PySem PySem.Spec L2 Dm Md
theorem keyT_kI (nss : List (List Int)) : (nss.map kI).map keyT = nss.map tupI := by
  rw [List.map_map]
  exact List.map_congr_left fun x _ => keyT_int x
theorem f_listT {S : Sto} {nss : List (List Int)} {vs : Tv} : listTF S [dV nss vs] = some (.lst (nss.map tupI)) := by
  show some (Vl.lst ((nss.map kI).map keyT)) = _
  rw [keyT_kI]
/-- the rows that are held: no two alike, all reduced, few -/
structure El (w n : Nat) (nss : List (List Int)) : Prop where
  nd : nss.Nodup
  rw_ : ∀ x ∈ nss, Rw (2 ^ w) n x
theorem El.few {w n : Nat} {nss : List (List Int)} (h : El w n nss) (hb : ((2 : Int) ^ w) ^ n ≤ 64) : nss.length ≤ 64 := by
  have := rows_few h.nd h.rw_
  omega
theorem El.add {w n : Nat} {nss : List (List Int)} {x r : List Int} {f : Int} (h : El w n nss) (hx : x.length = n) (hr : r.length = n) : El w n (addN nss (stepL x r f (2 ^ w))) := ⟨addN_nd h.nd, fun y hy => by
  rcases addN_mem.mp hy with hy | rfl
  · exact h.rw_ y hy
  · exact (step_rw (two_pow_pos w) hx hr).1⟩
/- b__law_elements -/
/-- the turns over what was held -/
theorem el_inner {w n : Nat} {rv : Vl} {t : Bool × List Int} {f : Int} {S : Sto} {nss : List (List Int)} {vs : Tv} {s6 : Sv} (hw : w ≤ 64) (hb : ((2 : Int) ^ w) ^ n ≤ 64) (hf : -(2 ^ 64) < f ∧ f < 2 ^ 64) (ht : t.2.length = n) (h : El w n nss) :
    Ret (loopS (tfN 6) elBody (nss.map tupI) [.v (.int w), .v (.int n), .v rv, .ow (dV nss vs), .v (rowE t), .v (.int f), s6, .un, .un] S) fun fl S1 => S1 = S ∧ ∃ nss' vs' s6', fl = .nx [.v (.int w), .v (.int n), .v rv, .ow (dV nss' vs'), .v (rowE t), .v (.int f), s6', .un, .un] ∧ El w n nss' ∧
      (∀ y ∈ nss, y ∈ nss') ∧ (∀ y ∈ nss', y ∈ nss ∨ ∃ x ∈ nss, y = stepL x t.2 f (2 ^ w)) ∧ ∀ x ∈ nss, stepL x t.2 f (2 ^ w) ∈ nss' := by
  refine (loop_ret (fun i env S' => S' = S ∧ ∃ nss' vs' s6', env = [.v (.int w), .v (.int n), .v rv, .ow (dV nss' vs'), .v (rowE t), .v (.int f), s6', .un, .un] ∧ El w n nss' ∧
      (∀ y ∈ nss, y ∈ nss') ∧ (∀ y ∈ nss', y ∈ nss ∨ ∃ x ∈ nss, y = stepL x t.2 f (2 ^ w)) ∧ ∀ x ∈ nss.take i, stepL x t.2 f (2 ^ w) ∈ nss') _ 0 _ _ ⟨rfl, nss, vs, s6, rfl, h, fun y hy => hy, fun y hy => .inl hy, fun x hx => absurd hx (by simp)⟩ ?_).mono ?_
  · rintro i x env S1 hx ⟨rfl, nss', vs', s6', rfl, hE, h1, h2, h3⟩
    rw [Nat.zero_add] at h3 ⊢
    obtain ⟨y, hy, rfl⟩ := map_at hx
    have hym := List.mem_of_getElem? hy
    have hyl := (h.rw_ y hym).len
    refine ⟨_, rfl, ?_⟩
    refine (el_turn (n := n) (x := y) hw hf (by have := hE.few hb; omega)).mono ?_
    rintro _ S1 ⟨vs2, rfl, rfl⟩
    refine ⟨_, .inl rfl, rfl, _, _, _, rfl, hE.add hyl ht, fun z hz => addN_mem.mpr (.inl (h1 z hz)), fun z hz => ?_, fun z hz => ?_⟩
    · rcases addN_mem.mp hz with hz | rfl
      · exact h2 z hz
      · exact .inr ⟨y, hym, rfl⟩
    · have hil := (List.getElem?_eq_some_iff.mp hy).1
      rw [List.take_succ_eq_append_getElem hil, List.mem_append, List.mem_singleton] at hz
      rcases hz with hz | rfl
      · exact addN_mem.mpr (.inl (h3 z hz))
      · have e : nss[i] = y := Option.some.inj ((List.getElem?_eq_getElem hil).symm.trans hy)
        rw [e]
        exact addN_mem.mpr (.inr rfl)
  · rintro _ S1 ⟨e, rfl, rfl, nss', vs', s6', rfl, hE, h1, h2, h3⟩
    rw [Nat.zero_add, List.length_map, List.take_length] at h3
    exact ⟨rfl, _, _, _, rfl, hE, h1, h2, h3⟩
end G11

set_option Elab.async false
set_option linter.all false
set_option maxRecDepth 100000
set_option autoImplicit false
set_option maxHeartbeats 1000000
namespace G11
open PySem PySem.Spec L2 Dm Md
local macro_rules | `(tactic| walk_at "wp") => `(tactic| (repeat (first | ((with_reducible apply w_var); exact rfl) | ((with_reducible apply w_varO); exact rfl) | ((with_reducible apply w_varL); exact rfl) | with_reducible refine w_c ?_ | with_reducible refine w_bin ?_ | with_reducible refine w_cB ?_ | with_reducible refine w_cons ?_ | with_reducible refine w_nil ?_ | with_reducible refine w_tup ?_ | with_reducible refine w_seqI ?_ | with_reducible refine w_rng2 ?_ | with_reducible refine w_rng1 ?_ | with_reducible refine w_zpI ?_ | ((with_reducible apply w_comp); exact rfl) | with_reducible refine w_assoc ?_ | with_reducible refine w_qnil ?_ | with_reducible refine w_qown ?_ | with_reducible refine w_qret ?_ | with_reducible refine w_qfor ?_ | with_reducible refine w_for ?_ | with_reducible refine w_nilS ?_ | with_reducible refine w_ret ?_ | ((with_reducible refine ⟨_, f_mulTk ?_, ?_⟩); omega) | with_reducible refine ⟨_, f_add, ?_⟩ | with_reducible refine ⟨_, f_int, ?_⟩ | with_reducible refine ⟨_, f_intB, ?_⟩ | with_reducible refine ⟨_, f_tupL, ?_⟩ | with_reducible refine ⟨_, f_tupT, ?_⟩ | with_reducible refine ⟨_, seqQ, ?_⟩ | with_reducible refine ⟨_, tupQ, ?_⟩ | with_reducible refine ⟨_, _, rfl, seqQ, ?_⟩ | with_reducible refine ⟨_, _, rfl, rfl, ?_⟩ | with_reducible refine ⟨_, _, _, rfl, rfl, ?_⟩ | with_reducible refine ⟨_, _, _, _, rfl, rfl, rfl, ?_⟩ | ((with_reducible refine ⟨_, f_mod ?_, ?_⟩); (first | assumption | omega | decide)) | ((with_reducible refine ⟨_, f_mul ?_, ?_⟩); omega) | ((with_reducible refine ⟨_, f_shl ?_, ?_⟩); (first | omega | decide)) | with_reducible refine ⟨_, rfl, ?_⟩ | with_reducible refine ret_ok.mpr ?_ | refine w_yes rfl ?_ | refine w_no rfl ?_ | ((with_reducible refine w_yes (decide_eq_true ?_) ?_); omega) | ((with_reducible refine w_no (decide_eq_false ?_) ?_); omega) | ((with_reducible refine w_nyes ?_ ?_); omega) | ((with_reducible refine w_nno ?_ ?_); omega))))
def elMid : SM := (forS (seqI (cB listTF (consA (varL 3) nilA))) (tfN 6) elBody)
/- b__law_elements -/
/-- one factor -/
theorem el_mid {w n : Nat} {rv : Vl} {t : Bool × List Int} {f : Int} {S : Sto} {nss : List (List Int)} {vs : Tv} {s6 : Sv} (hw : w ≤ 64) (hb : ((2 : Int) ^ w) ^ n ≤ 64) (hf : -(2 ^ 64) < f ∧ f < 2 ^ 64) (ht : t.2.length = n) (h : El w n nss) :
    Ret (elMid [.v (.int w), .v (.int n), .v rv, .ow (dV nss vs), .v (rowE t), .v (.int f), s6, .un, .un] S) fun fl S1 => S1 = S ∧ ∃ nss' vs' s6', fl = .nx [.v (.int w), .v (.int n), .v rv, .ow (dV nss' vs'), .v (rowE t), .v (.int f), s6', .un, .un] ∧ El w n nss' ∧
      (∀ y ∈ nss, y ∈ nss') ∧ (∀ y ∈ nss', y ∈ nss ∨ ∃ x ∈ nss, y = stepL x t.2 f (2 ^ w)) ∧ ∀ x ∈ nss, stepL x t.2 f (2 ^ w) ∈ nss' := by
  unfold elMid
  have hl : Ret (seqI (cB listTF (consA (varL 3) nilA)) [.v (.int w), .v (.int n), .v rv, .ow (dV nss vs), .v (rowE t), .v (.int f), s6, .un, .un] S) fun xs S1 => xs = nss.map tupI ∧ S1 = S := by
    refine ⟨_, _, ?_, rfl, rfl⟩
    show (match listTF S [dV nss vs] with | some v => Res.ok v S | none => .bad).bind _ = _
    rw [f_listT]
    rfl
  refine w_for (hl.mono ?_)
  rintro _ S ⟨rfl, rfl⟩
  refine (el_inner hw hb hf ht h).mono ?_
  rintro _ S1 ⟨rfl, nss', vs', s6', rfl, q⟩
  exact ⟨rfl, nss', vs', s6', rfl, q⟩
/-- all factors -/
theorem el_row {w n : Nat} {rv : Vl} {t : Bool × List Int} {S : Sto} {nss : List (List Int)} {vs : Tv} {s5 s6 : Sv} {G : List Int → Prop} (hw : w ≤ 6) (hb : ((2 : Int) ^ w) ^ n ≤ 64) (ht : t.2.length = n) (h : El w n nss) (hg : ∀ y ∈ nss, Sp (2 ^ w) n G (Md.ent y)) :
    Ret (forS (rngI (consA (bin2 shlF (cM (.int 1)) (varM 0)) nilA)) (tfN 5) elMid [.v (.int w), .v (.int n), .v rv, .ow (dV nss vs), .v (rowE t), s5, s6, .un, .un] S) fun fl S1 => S1 = S ∧ ∃ nss' vs' s5' s6', fl = .nx [.v (.int w), .v (.int n), .v rv, .ow (dV nss' vs'), .v (rowE t), s5', s6', .un, .un] ∧ El w n nss' ∧
      (∀ y ∈ nss', Sp (2 ^ w) n (fun x => G x ∨ x = t.2) (Md.ent y)) ∧ ∀ x ∈ nss, ∀ f : Nat, (f : Int) < 2 ^ w → stepL x t.2 f (2 ^ w) ∈ nss' := by
  have hM := two_pow_pos w
  have h64 : (2 : Int) ^ w ≤ 64 := by
    have h1 : (2 : Int) ^ w ≤ 2 ^ 6 := Int.le_of_dvd (two_pow_pos 6) (pow_dv hw)
    have h2 : (2 : Int) ^ 6 = 64 := by decide
    omega
  walk_at "wp"
  rw [shw]
  refine ⟨by omega, ?_⟩
  refine (loop_ret (fun i env S' => S' = S ∧ ∃ nss' vs' s5' s6', env = [.v (.int w), .v (.int n), .v rv, .ow (dV nss' vs'), .v (rowE t), s5', s6', .un, .un] ∧ El w n nss' ∧ (∀ y ∈ nss, y ∈ nss') ∧
      (∀ y ∈ nss', Sp (2 ^ w) n (fun x => G x ∨ x = t.2) (Md.ent y)) ∧ ∀ x ∈ nss, ∀ f : Nat, f < i → stepL x t.2 f (2 ^ w) ∈ nss') _ 0 _ _ ⟨rfl, nss, vs, s5, s6, rfl, h, fun y hy => hy, fun y hy => (hg y hy).sub fun x q => .inl q, fun x hx f hf => absurd hf (by omega)⟩ ?_).mono ?_
  · rintro i x env S1 hx ⟨rfl, nss', vs', s5', s6', rfl, hE, h1, h2, h3⟩
    rw [Nat.zero_add] at h3 ⊢
    have hi : i < ((2 : Int) ^ w).toNat := by
      have := (List.getElem?_eq_some_iff.mp hx).1
      rwa [rgI_length] at this
    rw [rgI_get hi, Int.zero_add] at hx
    cases hx
    refine ⟨_, rfl, ?_⟩
    refine (el_mid (w := w) (n := n) (nss := nss') (t := t) (f := (i : Int)) (by omega) hb (by omega) ht hE).mono ?_
    rintro _ S1 ⟨rfl, nss2, vs2, s62, rfl, hE2, g1, g2, g3⟩
    refine ⟨_, .inl rfl, rfl, _, _, _, _, rfl, hE2, fun y hy => g1 y (h1 y hy), fun y hy => ?_, fun x hx f hf => ?_⟩
    · rcases g2 y hy with hy | ⟨x, hx, rfl⟩
      · exact h2 y hy
      · refine ((h2 x hx).comb (i : Int) (.gen (.inr rfl))).congr ?_
        exact (step_rw hM (hE.rw_ x hx).len ht).2
    · by_cases hfi : f = i
      · subst hfi
        exact g3 x (h1 x hx)
      · exact g1 _ (h3 x hx f (by omega))
  · rintro _ S1 ⟨e, rfl, rfl, nss', vs', s5', s6', rfl, hE, h1, h2, h3⟩
    rw [Nat.zero_add, rgI_length] at h3
    exact ⟨rfl, _, _, _, _, rfl, hE, h2, fun x hx f hf => h3 x hx f (by omega)⟩
end G11

set_option Elab.async false
set_option linter.all false
set_option maxRecDepth 100000
set_option autoImplicit false
set_option maxHeartbeats 1000000
namespace G11
open PySem PySem.Spec L2 Dm Md
theorem sp_split {M : Int} {n : Nat} {G : List Int → Prop} {r : List Int} {v : Nat → Int} (h : Sp M n (fun x => G x ∨ x = r) v) : ∃ c u, Sp M n G u ∧ ∀ k, k < n → M ∣ v k - (u k + c * Md.ent r k) := by
  induction h with
  | @zero v h => exact ⟨0, v, .zero h, fun k hk => dv_eq (Int.dvd_zero M) (by rw [Int.zero_mul]; omega)⟩
  | @add v u g d hg hs h ih =>
    obtain ⟨c, u', h1, h2⟩ := ih
    rcases hg with hg | rfl
    · refine ⟨c, _, h1.comb d (.gen hg), fun k hk => dv_eq (dv_add (h k hk) (h2 k hk)) (by omega)⟩
    · exact ⟨c + d, u', h1, fun k hk => dv_eq (dv_add (h k hk) (h2 k hk)) (by rw [Int.add_mul]; omega)⟩
def canL (M : Int) (n : Nat) (u : Nat → Int) : List Int := (List.range n).map fun k => u k % M
theorem can_ent {M : Int} {n k : Nat} {u : Nat → Int} (h : k < n) : Md.ent (canL M n u) k = u k % M := by
  show (canL M n u).getD k 0 = _
  unfold canL
  rw [List.getD_eq_getElem?_getD, List.getElem?_map, List.getElem?_range h]
  rfl
theorem can_rw {M : Int} {n : Nat} {u : Nat → Int} (hM : 0 < M) : Rw M n (canL M n u) := ⟨by unfold canL; rw [List.length_map, List.length_range], fun k hk => by
  rw [can_ent hk]
  exact ⟨Int.emod_nonneg _ (by omega), Int.emod_lt_of_pos _ hM⟩⟩
/-- which rows are held behind a row -/
theorem el_next {w n : Nat} {nss nss' : List (List Int)} {G : List Int → Prop} {r : List Int} (hr : r.length = n) (hE : El w n nss) (hE' : El w n nss') (h : ∀ x, Rw (2 ^ w) n x → (x ∈ nss ↔ Sp (2 ^ w) n G (Md.ent x)))
    (g1 : ∀ y ∈ nss', Sp (2 ^ w) n (fun x => G x ∨ x = r) (Md.ent y)) (g2 : ∀ x ∈ nss, ∀ f : Nat, (f : Int) < 2 ^ w → stepL x r f (2 ^ w) ∈ nss') : ∀ x, Rw (2 ^ w) n x → (x ∈ nss' ↔ Sp (2 ^ w) n (fun x => G x ∨ x = r) (Md.ent x)) := fun x hx => by
  have hM := two_pow_pos w
  refine ⟨g1 x, fun hs => ?_⟩
  obtain ⟨c, u, h1, h2⟩ := sp_split hs
  have hy : Rw (2 ^ w) n (canL (2 ^ w) n u) := can_rw hM
  have hyn : canL (2 ^ w) n u ∈ nss := (h _ hy).mpr (h1.congr fun k hk => by
    rw [can_ent hk]
    exact emod_dv _ _)
  have c0 := Int.emod_nonneg c (Int.ne_of_gt hM)
  have c1 := Int.emod_lt_of_pos c hM
  have hst := step_rw (f := ((c % 2 ^ w).toNat : Int)) hM hy.len hr
  have e : x = stepL (canL (2 ^ w) n u) r ((c % 2 ^ w).toNat : Int) (2 ^ w) := rw_inj hx hst.1 fun k hk => by
    obtain ⟨a0, a1⟩ := hx.bd k hk
    obtain ⟨b0, b1⟩ := hst.1.bd k hk
    refine red_eq a0 a1 b0 b1 ?_
    have q1 := h2 k hk
    have q2 := hst.2 k hk
    have q3 : (2 : Int) ^ w ∣ Md.ent (canL (2 ^ w) n u) k - u k := by rw [can_ent hk]; exact emod_dv _ _
    have q4 : (2 : Int) ^ w ∣ (c % 2 ^ w - c) * Md.ent r k := Int.dvd_mul_of_dvd_left (emod_dv c _)
    rw [Int.toNat_of_nonneg c0] at q2 ⊢
    refine dv_eq (dv_sub (dv_sub (dv_sub q1 q2) q3) q4) ?_
    rw [Int.sub_mul]
    omega
  rw [e]
  exact g2 _ hyn _ (by omega)
end G11

set_option Elab.async false
set_option linter.all false
set_option maxRecDepth 100000
set_option autoImplicit false
set_option maxHeartbeats 1000000
namespace G11
open PySem PySem.Spec L2 Dm Md
local macro_rules | `(tactic| walk_at "wp") => `(tactic| (repeat (first | ((with_reducible apply w_var); exact rfl) | ((with_reducible apply w_varO); exact rfl) | ((with_reducible apply w_varL); exact rfl) | with_reducible refine w_c ?_ | with_reducible refine w_bin ?_ | with_reducible refine w_cB ?_ | with_reducible refine w_cons ?_ | with_reducible refine w_nil ?_ | with_reducible refine w_tup ?_ | with_reducible refine w_seqI ?_ | with_reducible refine w_rng2 ?_ | with_reducible refine w_rng1 ?_ | with_reducible refine w_zpI ?_ | ((with_reducible apply w_comp); exact rfl) | with_reducible refine w_assoc ?_ | with_reducible refine w_qnil ?_ | with_reducible refine w_qown ?_ | with_reducible refine w_qret ?_ | with_reducible refine w_qfor ?_ | with_reducible refine w_for ?_ | with_reducible refine w_nilS ?_ | with_reducible refine w_ret ?_ | ((with_reducible refine ⟨_, f_mulTk ?_, ?_⟩); omega) | with_reducible refine ⟨_, f_add, ?_⟩ | with_reducible refine ⟨_, f_int, ?_⟩ | with_reducible refine ⟨_, f_intB, ?_⟩ | with_reducible refine ⟨_, f_tupL, ?_⟩ | with_reducible refine ⟨_, f_tupT, ?_⟩ | with_reducible refine ⟨_, seqQ, ?_⟩ | with_reducible refine ⟨_, tupQ, ?_⟩ | with_reducible refine ⟨_, _, rfl, seqQ, ?_⟩ | with_reducible refine ⟨_, _, rfl, rfl, ?_⟩ | with_reducible refine ⟨_, _, _, rfl, rfl, ?_⟩ | with_reducible refine ⟨_, _, _, _, rfl, rfl, rfl, ?_⟩ | ((with_reducible refine ⟨_, f_mod ?_, ?_⟩); (first | assumption | omega | decide)) | ((with_reducible refine ⟨_, f_mul ?_, ?_⟩); omega) | ((with_reducible refine ⟨_, f_shl ?_, ?_⟩); (first | omega | decide)) | with_reducible refine ⟨_, rfl, ?_⟩ | with_reducible refine ret_ok.mpr ?_ | refine w_yes rfl ?_ | refine w_no rfl ?_ | ((with_reducible refine w_yes (decide_eq_true ?_) ?_); omega) | ((with_reducible refine w_no (decide_eq_false ?_) ?_); omega) | ((with_reducible refine w_nyes ?_ ?_); omega) | ((with_reducible refine w_nno ?_ ?_); omega))))
theorem mul_zero {m : Nat} {S : Sto} (h : m ≤ 1000) : mulTF S (.tup [.int 0]) (.int m) = some (tupI (List.replicate m 0)) := by
  show (if _ then some (Vl.tup (List.replicate (m : Int).toNat [Vl.int 0]).flatten) else none) = _
  rw [if_pos ⟨by simp, by simp, by omega, by omega⟩, Int.toNat_natCast]
  unfold tupI
  rw [List.map_replicate]
  congr 2
  induction m with
  | zero => rfl
  | succ m ih => rw [List.replicate_succ, List.replicate_succ, List.flatten_cons, ih (by omega)]; rfl
theorem ent_zero {m i : Nat} : Md.ent (List.replicate m 0) i = 0 := by
  show (List.replicate m (0 : Int)).getD i 0 = 0
  rw [List.getD_eq_getElem?_getD, List.getElem?_replicate]
  split <;> rfl
/-- the value at the zero row -/
def tv0 : Tv := ⟨[.bl true], rfl⟩
theorem kI_zero (n : Nat) : keyVs ((List.replicate n (0 : Int)).map Vl.int) = some (kI (List.replicate n 0)) := keyVs_int _
theorem zero_iff {w n : Nat} {x : List Int} (hx : Rw (2 ^ w) n x) : x ∈ [List.replicate n (0 : Int)] ↔ Sp (2 ^ w) n (fun x => x ∈ ([] : List (List Int))) (Md.ent x) := by
  rw [List.mem_singleton]
  constructor
  · rintro rfl
    exact .zero fun k hk => by rw [ent_zero]; exact Int.dvd_zero _
  · intro h
    have hz : ∀ k, k < n → Md.ent x k = 0 := fun k hk => by
      obtain ⟨a0, a1⟩ := hx.bd k hk
      exact red0 a0 a1 (h.at0 hk fun g hg => absurd hg (by simp))
    refine List.ext_getElem? fun k => ?_
    by_cases hk : k < n
    · have e : x.getD k 0 = 0 := hz k hk
      rw [List.getD_eq_getElem?_getD, List.getElem?_eq_getElem (by rw [hx.len]; exact hk)] at e
      rw [List.getElem?_eq_getElem (by rw [hx.len]; exact hk), List.getElem?_replicate, if_pos hk]
      exact congrArg some e
    · rw [List.getElem?_eq_none (by rw [hx.len]; omega), List.getElem?_eq_none (by rw [List.length_replicate]; omega)]
/- b__law_elements -/
theorem elements_ok {w n : Nat} {b : Bool} {ts : List (Bool × List Int)} {S : Sto} (hw : w ≤ 6) (hn : n ≤ 6) (hb : ((2 : Int) ^ w) ^ n ≤ 64) (h : AllLen n ts) :
    Ret (m__law_elements [.int w, .int n, rowsE b ts] S) fun v S1 => ∃ nss vs, v = .ref S.length ∧ S1 = S ++ [dV nss vs] ∧ El w n nss ∧ ∀ x, Rw (2 ^ w) n x → (x ∈ nss ↔ Sp (2 ^ w) n (fun x => x ∈ ts.map (·.2)) (Md.ent x)) := by
  have hM := two_pow_pos w
  unfold m__law_elements b__law_elements
  refine w_run ?_
  refine w_qown (Ret.mono (P := fun v S1 => v = dV [List.replicate n 0] tv0 ∧ S1 = S) ?_ ?_)
  · refine ⟨_, _, ?_, rfl, rfl⟩
    show ((bin2 mulTF (tupM (consA (cM (.int 0)) nilA)) (varM 1) (startE N__law_elements.length [.int w, .int n, rowsE b ts]) S).bind _) = _
    have e : bin2 mulTF (tupM (consA (cM (.int 0)) nilA)) (varM 1) (startE N__law_elements.length [.int w, .int n, rowsE b ts]) S = .ok (tupI (List.replicate n 0)) S := by
      show (match mulTF S (.tup [.int 0]) (.int n) with | some v => Res.ok v S | none => .bad) = _
      rw [mul_zero (by omega)]
    rw [e]
    show (match keyVs ((List.replicate n (0 : Int)).map Vl.int) with | some ks => _ | none => _) = _
    rw [kI_zero]
    rfl
  · rintro _ S1 ⟨rfl, rfl⟩
    walk_at "wp"
    refine ⟨_, seq_rowsE b ts, ?_⟩
    refine (loop_ret (fun i env S' => S' = S1 ∧ ∃ nss vs s4 s5 s6, env = [.v (.int w), .v (.int n), .v (rowsE b ts), .ow (dV nss vs), s4, s5, s6, .un, .un] ∧ El w n nss ∧
      ∀ x, Rw (2 ^ w) n x → (x ∈ nss ↔ Sp (2 ^ w) n (fun x => x ∈ (ts.take i).map (·.2)) (Md.ent x))) _ 0 _ _
      ⟨rfl, [List.replicate n 0], tv0, .un, .un, .un, rfl, ⟨by simp, fun x hx => by
        rw [List.mem_singleton.mp hx]
        exact ⟨List.length_replicate, fun k hk => by rw [ent_zero]; exact ⟨Int.le_refl _, hM⟩⟩⟩, fun x hx => zero_iff hx⟩ ?_).mono ?_
    · rintro i x env S1 hx ⟨rfl, nss, vs, s4, s5, s6, rfl, hE, hiff⟩
      rw [Nat.zero_add] at hiff ⊢
      obtain ⟨t, ht, rfl⟩ := map_at hx
      have hil := (List.getElem?_eq_some_iff.mp ht).1
      have htl := h t (List.mem_of_getElem? ht)
      refine ⟨_, rfl, ?_⟩
      refine (el_row (t := t) (vs := vs) (s5 := s5) (s6 := s6) (rv := rowsE b ts) hw hb htl hE (fun y hy => (hiff y (hE.rw_ y hy)).mp hy)).mono ?_
      rintro _ S1 ⟨rfl, nss', vs', s5', s6', rfl, hE', g1, g2⟩
      refine ⟨_, .inl rfl, rfl, _, _, _, _, _, rfl, hE', fun x hx => ?_⟩
      rw [el_next htl hE hE' hiff g1 g2 x hx]
      have e : ts[i] = t := Option.some.inj ((List.getElem?_eq_getElem hil).symm.trans ht)
      have em : ∀ z, z ∈ (ts.take (i + 1)).map (·.2) ↔ z ∈ (ts.take i).map (·.2) ∨ z = t.2 := fun z => by
        rw [List.take_succ_eq_append_getElem hil, List.map_append, List.mem_append, e]
        simp
      exact ⟨fun q => q.sub fun z hz => (em z).mpr hz, fun q => q.sub fun z hz => (em z).mp hz⟩
    · rintro _ S1 ⟨e, rfl, rfl, nss, vs, s4, s5, s6, rfl, hE, hiff⟩
      rw [Nat.zero_add, List.length_map, List.take_length] at hiff
      refine w_qshr rfl ?_
      walk_at "wp"
      exact ⟨hE, hiff⟩
end G11

set_option Elab.async false
set_option linter.all false
set_option maxRecDepth 100000
set_option autoImplicit false
set_option maxHeartbeats 1000000
namespace G11
open PySem PySem.Spec L2 Dm Md
theorem KInv.col {n : Nat} {M : Int} : ∀ (as : List Nat) (r : List Int) (P : Pv) (W : List (List Int)), (∀ a ∈ as, a < n) → KInv n P → KInv n (colP M as r P W).2.1
  | [], _, _, _, _, h => h
  | a :: as, r, P, W, ha, h => by
    rw [colP_cons]
    by_cases h0 : Md.ent r a ≠ 0
    · rw [if_pos h0]
      exact KInv.col as _ _ _ (fun b hb => ha b (List.mem_cons_of_mem _ hb)) (h.pass (ha a (List.mem_cons_self ..)) M r)
    · rw [if_neg h0]
      exact KInv.col as _ _ _ (fun b hb => ha b (List.mem_cons_of_mem _ hb)) h
theorem KInv.putL {n : Nat} {M : Int} : ∀ (f : Nat) (P : Pv) (W : List (List Int)), KInv n P → KInv n (Md.putL M n f P W)
  | 0, _, _, h => h
  | f + 1, P, W, h => by
    cases hl : W.getLast? with
    | none =>
      have e : Md.putL M n (f + 1) P W = P := by
        show (match W.getLast? with | none => P | some r => _) = _
        rw [hl]
      rw [e]
      exact h
    | some r =>
      rw [putL_some hl]
      exact KInv.putL f _ _ (KInv.col _ _ _ _ (fun a ha => by have := List.mem_range'_1.mp ha; omega) h)
theorem KInv.stair {n f : Nat} {M : Int} : ∀ (rs : List (List Int)) (P : Pv), KInv n P → KInv n (stairP M n f rs P)
  | [], _, h => h
  | r :: rs, P, h => KInv.stair rs _ (KInv.putL f P [r] h)
theorem KInv.none {n : Nat} : KInv n [] := ⟨List.nodup_nil, fun a h => by cases h⟩
theorem ent_red {M : Int} {r : List Int} {k : Nat} (h : k < r.length) : Md.ent (redL M r) k = Md.ent r k % M := by
  unfold redL Md.ent
  rw [List.getD_eq_getElem?_getD, List.getD_eq_getElem?_getD, List.getElem?_map, List.getElem?_eq_getElem h]
  rfl
section
variable {w n : Nat} {ts : List (Bool × List Int)} {t : Bool × List Int}
theorem red_span (h : AllLen n ts) (v : Nat → Int) : Sp (2 ^ w) n (fun x => x ∈ ts.map fun t => redL (2 ^ w) t.2) v ↔ Sp (2 ^ w) n (fun x => x ∈ ts.map (·.2)) v := by
  refine ⟨fun q => q.mono fun x hx => ?_, fun q => q.mono fun x hx => ?_⟩
  · obtain ⟨t, ht, rfl⟩ := List.mem_map.mp hx
    refine (Sp.gen (List.mem_map.mpr ⟨t, ht, rfl⟩)).congr fun k hk => ?_
    rw [ent_red (by rw [h t ht]; exact hk)]
    exact emod_dv _ _
  · obtain ⟨t, ht, rfl⟩ := List.mem_map.mp hx
    refine (Sp.gen (List.mem_map.mpr ⟨t, ht, rfl⟩)).congr fun k hk => ?_
    rw [ent_red (by rw [h t ht]; exact hk)]
    exact dv_eq ((Int.dvd_neg).mpr (emod_dv (Md.ent t.2 k) (2 ^ w))) (by omega)
theorem red_row (ht : t.2.length = n) {G : List Int → Prop} : Sp (2 ^ w) n G (Md.ent (redL (2 ^ w) t.2)) ↔ Sp (2 ^ w) n G (Md.ent t.2) :=
  ⟨fun q => q.congr fun k hk => by
    rw [ent_red (by rw [ht]; exact hk)]
    exact dv_eq ((Int.dvd_neg).mpr (emod_dv (Md.ent t.2 k) (2 ^ w))) (by omega), fun q => q.congr fun k hk => by
    rw [ent_red (by rw [ht]; exact hk)]
    exact emod_dv _ _⟩
end
end G11

set_option Elab.async false
set_option linter.all false
set_option maxRecDepth 100000
set_option autoImplicit false
set_option maxHeartbeats 1000000
namespace G11
open PySem PySem.Spec L2 Dm Md
local macro_rules | `(tactic| walk_at "wp") => `(tactic| (repeat (first | ((with_reducible apply w_var); exact rfl) | with_reducible refine w_c ?_ | with_reducible refine w_bin ?_ | with_reducible refine w_cB ?_ | with_reducible refine w_cons ?_ | with_reducible refine w_nil ?_ | with_reducible refine w_lst ?_ | with_reducible refine w_call ?_ | with_reducible refine w_fld ?_ | with_reducible refine w_sl ?_ | with_reducible refine w_oN ?_ | with_reducible refine w_oS ?_ | with_reducible refine w_seqI ?_ | with_reducible refine w_enI ?_ | with_reducible refine w_assoc ?_ | with_reducible refine w_qnil ?_ | with_reducible refine w_qset ?_ | with_reducible refine w_qret ?_ | ((with_reducible apply w_qapp); exact rfl) | with_reducible refine w_qfor ?_ | with_reducible refine w_for ?_ | with_reducible refine w_nilS ?_ | with_reducible refine w_ret ?_ | with_reducible refine w_set ?_ | ((with_reducible apply w_app); exact rfl) | with_reducible refine ⟨_, f_add, ?_⟩ | with_reducible refine ⟨_, seqQ, ?_⟩ | with_reducible refine ⟨_, _, rfl, seqQ, ?_⟩ | with_reducible refine ⟨_, _, rfl, rfl, ?_⟩ | with_reducible refine ⟨_, _, _, rfl, rfl, ?_⟩ | with_reducible refine ⟨_, _, _, _, rfl, rfl, rfl, ?_⟩ | with_reducible refine ⟨_, f_slL, ?_⟩ | with_reducible refine ⟨_, f_slT, ?_⟩ | ((with_reducible refine ⟨_, f_fdiv ?_ ?_, ?_⟩); (first | assumption | omega | decide); (first | assumption | omega | decide)) | with_reducible refine ⟨_, rfl, ?_⟩ | with_reducible refine ret_ok.mpr ?_ | refine w_yes rfl ?_ | refine w_no rfl ?_ | ((with_reducible refine w_yes (decide_eq_true ?_) ?_); omega) | ((with_reducible refine w_no (decide_eq_false ?_) ?_); omega) | ((with_reducible refine w_nyes ?_ ?_); omega) | ((with_reducible refine w_nno ?_ ?_); omega))))
theorem cut_from {T : Type} {g : T → Vl} {l : List T} {i : Nat} (h : i ≤ l.length) : cutL (l.map g) (some (i : Int)) none = (l.drop i).map g := by
  unfold cutL
  rw [HT.sIx_none, HT.sIx_nat, List.length_map, Nat.min_eq_left h, List.map_drop]
  exact List.take_of_length_le (by rw [List.length_drop, List.length_map]; exact Nat.le_refl _)
theorem cut_to {T : Type} {g : T → Vl} {l : List T} {i : Nat} (h : i ≤ l.length) : cutL (l.map g) none (some (i : Int)) = (l.take i).map g := by
  unfold cutL
  rw [HT.sIx_none, HT.sIx_nat, List.drop_zero, Nat.sub_zero, List.map_take, List.length_map, Nat.min_eq_left h]
abbrev colsV (cs : List Nat) : Vl := .lst (cs.map fun a : Nat => .int (a : Int))
def inB : SM := (forS (seqI (slM (varM 2) (oS (bin2 addF (varM 3) (cM (.int 1)))) oN)) (tfN 6)
  (seqS (setS 7 (bin2 ixF (fldM 0 "pivots" (varM 0)) (varM 6)))
  (setS 5 (callM m_less (consA (varM 5) (consA (varM 7) (consA (bin2 fdivF (bin2 ixF (varM 5) (varM 6)) (bin2 ixF (varM 7) (varM 6))) (consA (fldM 0 "modulus" (varM 0)) nilA))))))))
/- b_Stair_tidied -/
theorem tid_in {w n k i a : Nat} {P : Pv} {cs : List Nat} {r : List Int} {F : Vl} {s6 s7 : Sv} {S : Sto} (hw : w ≤ 64) (hk : S[k]? = some (dkV P)) (I : PInv w n (getP P) []) (hc : ∀ b ∈ cs, getP P b ≠ none) (hi : i + 1 ≤ cs.length) (hr : Rw (2 ^ w) n r) :
    Ret (inB [.v (stV w n k), .ow F, .v (colsV cs), .v (.int i), .v (.int a), .v (tupI r), s6, s7] S) fun fl S1 => S1 = S ∧ ∃ s6 s7, fl = .nx [.v (stV w n k), .ow F, .v (colsV cs), .v (.int i), .v (.int a), .v (tupI (restP (2 ^ w) P n (cs.drop (i + 1)) r)), s6, s7] := by
  have h64 := p64 hw
  have hM := two_pow_pos w
  unfold inB
  walk_at "wp"
  have ec : cutL (cs.map fun a : Nat => Vl.int (a : Int)) (some ((i : Int) + 1)) none = (cs.drop (i + 1)).map fun a : Nat => Vl.int (a : Int) := cut_from (i := i + 1) hi
  rw [ec]
  generalize hcd : cs.drop (i + 1) = ds
  have hds : ∀ b ∈ ds, getP P b ≠ none := fun b hb => hc b (List.mem_of_mem_drop (by rw [hcd]; exact hb))
  refine (loop_ret (fun j env S' => S' = S ∧ ∃ r' s6 s7, env = [.v (stV w n k), .ow F, .v (colsV cs), .v (.int i), .v (.int a), .v (tupI r'), s6, s7] ∧ Rw (2 ^ w) n r' ∧ j ≤ ds.length ∧ restP (2 ^ w) P n (ds.drop j) r' = restP (2 ^ w) P n ds r) _ 0 _ _ ⟨rfl, r, s6, s7, rfl, hr, Nat.zero_le _, rfl⟩ ?_).mono ?_
  · rintro j x env S1 hx ⟨rfl, r', s6, s7, rfl, hr', hj, hre⟩
    rw [Nat.zero_add] at hj hre ⊢
    obtain ⟨b, hb, rfl⟩ := map_at hx
    have hil : j < ds.length := (List.getElem?_eq_some_iff.mp hb).1
    have hd : ds.drop j = b :: ds.drop (j + 1) := by
      rw [List.drop_eq_getElem_cons hil]
      congr 1
      exact Option.some.inj ((List.getElem?_eq_getElem hil).symm.trans hb)
    have hne := hds b (List.mem_of_getElem? hb)
    cases hg : getP P b with
    | none => exact absurd hg hne
    | some p =>
      obtain ⟨han, hp, _, e, he, hpa⟩ := I.piv b p hg
      have hp0 : 0 < Md.ent p b := by rw [hpa]; exact two_pow_pos e
      have hp200 : Md.ent p b < 2 ^ 200 := by have := hp.bd b han; omega
      have hra : b < r'.length := by rw [hr'.len]; exact han
      have hpl : b < p.length := by rw [hp.len]; exact han
      refine ⟨_, rfl, ?_⟩
      walk_at "wp"
      refine ⟨_, ix_piv hk hg, ?_⟩
      walk_at "wp"
      refine ⟨_, ix_row hra, ?_⟩
      walk_at "wp"
      refine ⟨_, ix_row hpl, ?_⟩
      walk_at "wp"
      refine (less_ok (small_of hw hp) hM).mono ?_
      rintro _ S1 ⟨rfl, rfl⟩
      refine ⟨_, .inl rfl, rfl, _, _, _, rfl, rw_less hM hr'.len hp.len, hil, ?_⟩
      rw [← hre, hd]
      conv => rhs; unfold restP
      rw [if_pos han, hg]
  · rintro _ S1 ⟨e, rfl, rfl, r', s6, s7, rfl, hr', hj, hre⟩
    rw [Nat.zero_add, List.length_map, List.drop_length] at hre
    refine ⟨rfl, s6, s7, ?_⟩
    rw [← hre]
    rfl
theorem tidL_at {M : Int} {n : Nat} {P : Pv} : ∀ {cs : List Nat} {i a : Nat}, cs[i]? = some a → (tidL M n P cs)[i]? = some (restP M P n (cs.drop (i + 1)) ((getP P a).getD []))
  | [], _, _, h => by simp at h
  | c :: cs, 0, a, h => by
    simp at h
    subst h
    rfl
  | c :: cs, i + 1, a, h => by
    have := tidL_at (M := M) (n := n) (P := P) (cs := cs) (i := i) (by simpa using h)
    simpa [tidL] using this
/- b_Stair_tidied -/
theorem tidied_ok {w n k : Nat} {P : Pv} {S : Sto} (hw : w ≤ 64) (hk : S[k]? = some (dkV P)) (I : PInv w n (getP P) []) (hK : KInv n P) (hn : n < 64) :
    Ret (m_Stair_tidied [stV w n k] S) fun v S1 => v = .ref S.length ∧ S1 = S ++ [.lst ((tidL (2 ^ w) n P (cols P)).map tupI)] := by
  unfold m_Stair_tidied b_Stair_tidied
  refine w_run ?_
  refine w_qparOV (Nat.le_of_ble_eq_true rfl) ?_
  walk_at "wp"
  refine ⟨_, f_sortD hk hK hn, ?_⟩
  walk_at "wp"
  refine (loop_ret (fun i env S' => S' = S ∧ ∃ s3 s4 s5 s6 s7, env = [.v (stV w n k), .ow (.lst (((tidL (2 ^ w) n P (cols P)).take i).map tupI)), .v (colsV (cols P)), s3, s4, s5, s6, s7]) _ 0 _ _ ⟨rfl, .un, .un, .un, .un, .un, rfl⟩ ?_).mono ?_
  · rintro i x env S1 hx ⟨rfl, s3, s4, s5, s6, s7, rfl⟩
    rw [Nat.zero_add]
    obtain ⟨y, hy, rfl⟩ := enL_at hx
    obtain ⟨a, ha, rfl⟩ := map_at hy
    have hil := (List.getElem?_eq_some_iff.mp ha).1
    have hne := cols_mem.mp (List.mem_of_getElem? ha)
    cases hg : getP P a with
    | none => exact absurd hg hne
    | some p =>
      obtain ⟨han, hp, _, e, he, hpa⟩ := I.piv a p hg
      refine ⟨_, rfl, ?_⟩
      walk_at "wp"
      refine ⟨_, ix_piv hk hg, ?_⟩
      refine w_seq ?_
      refine (show Ret (inB [.v (stV w n k), .ow (.lst (((tidL (2 ^ w) n P (cols P)).take i).map tupI)), .v (colsV (cols P)), .v (.int i), .v (.int a), .v (tupI p), s6, s7] S1) _ from (tid_in (k := k) (i := i) (a := a) (cs := cols P) hw hk I (fun b hb => cols_mem.mp hb) hil hp).mono ?_)
      rintro _ S2 ⟨rfl, s6', s7', rfl⟩
      dsimp only
      walk_at "wp"
      refine ⟨by rw [List.length_map, List.length_take]; have := hK.len; have h2 := tidL_length (P := P) (n := n) (2 ^ w) (cols P); have h3 : (cols P).length = P.length := (by unfold cols; rw [(isortB_perm _).length_eq, List.length_map]); omega, ?_⟩
      have e1 := tidL_at (M := 2 ^ w) (n := n) (P := P) ha
      rw [hg] at e1
      have hl2 := (List.getElem?_eq_some_iff.mp e1).1
      have e2 : (tidL (2 ^ w) n P (cols P)).take (i + 1) = (tidL (2 ^ w) n P (cols P)).take i ++ [restP (2 ^ w) P n ((cols P).drop (i + 1)) p] := by
        rw [List.take_succ_eq_append_getElem hl2]
        congr 2
        exact Option.some.inj ((List.getElem?_eq_getElem hl2).symm.trans e1)
      rw [e2, List.map_append]
      exact ⟨_, .inl rfl, rfl, _, _, _, _, _, rfl⟩
  · rintro _ S1 ⟨e, rfl, rfl, s3, s4, s5, s6, s7, rfl⟩
    dsimp only
    refine w_qshr rfl ?_
    walk_at "wp"
    rw [Nat.zero_add, enL_length, List.length_map]
    have h2 := tidL_length (P := P) (n := n) (2 ^ w) (cols P)
    rw [← h2, List.take_length]
    exact ⟨rfl, rfl⟩
end G11

set_option Elab.async false
set_option linter.all false
set_option maxRecDepth 100000
set_option autoImplicit false
set_option maxHeartbeats 1000000
namespace G11
open PySem PySem.Spec L2 Dm Md
local macro_rules | `(tactic| walk_at "wp") => `(tactic| (repeat (first | ((with_reducible apply w_var); exact rfl) | with_reducible refine w_c ?_ | with_reducible refine w_cons ?_ | with_reducible refine w_nil ?_ | with_reducible refine w_call ?_ | with_reducible refine w_meth ?_ | with_reducible refine w_assoc ?_ | with_reducible refine w_qnil ?_ | with_reducible refine w_qret ?_ | with_reducible refine w_nilS ?_ | with_reducible refine w_ret ?_ | with_reducible refine ⟨_, _, rfl, rfl, ?_⟩ | with_reducible refine ⟨_, _, _, rfl, rfl, ?_⟩ | with_reducible refine ⟨_, _, _, _, rfl, rfl, rfl, ?_⟩ | with_reducible refine ⟨_, rfl, ?_⟩ | with_reducible refine ret_ok.mpr ?_ | refine w_yes rfl ?_ | refine w_no rfl ?_ | ((with_reducible refine w_yes (decide_eq_true ?_) ?_); omega) | ((with_reducible refine w_no (decide_eq_false ?_) ?_); omega) | ((with_reducible refine w_nyes ?_ ?_); omega) | ((with_reducible refine w_nno ?_ ?_); omega))))
/-- what stands in the store: no references, no lists in what it holds -/
structure Ss (S : Sto) : Prop where
  rf : S.all (rfB 0) = true
  ok : stOk S = true
theorem rfB_ints : ∀ x : List Int, rfBs 0 (x.map Vl.int) = true
  | [] => rfl
  | a :: x => by
    show (true && rfBs 0 (x.map Vl.int)) = true
    rw [rfB_ints x]
    rfl
theorem rfB_tup (x : List Int) : rfB 0 (tupI x) = true := rfB_ints x
theorem rfB_tups {T : Type} (g : T → List Int) : ∀ P : List T, rfBs 0 (P.map fun p => tupI (g p)) = true
  | [] => rfl
  | p :: P => by
    show (rfB 0 (tupI (g p)) && rfBs 0 (P.map fun p => tupI (g p))) = true
    rw [rfB_tups g P, rfB_tup]
    rfl
theorem nlB_ints : ∀ x : List Int, nlBs (x.map Vl.int) = true
  | [] => rfl
  | a :: x => by
    show (true && nlBs (x.map Vl.int)) = true
    rw [nlB_ints x]
    rfl
theorem nlB_tups {T : Type} (g : T → List Int) (P : List T) : nlBs (P.map fun p => tupI (g p)) = true := nlBs_map (fun p => tupI (g p)) (fun p => nlB_ints (g p)) P
theorem Ss.app {S : Sto} {x : Vl} (h : Ss S) (h1 : rfB 0 x = true) (h2 : nlO x = true) : Ss (S ++ [x]) where
  rf := List.all_eq_true.mpr fun y hy => by
    rcases List.mem_append.mp hy with hy | hy
    · exact List.all_eq_true.mp h.rf y hy
    · rw [List.mem_singleton.mp hy]; exact h1
  ok := List.all_eq_true.mpr fun y hy => by
    rcases List.mem_append.mp hy with hy | hy
    · exact List.all_eq_true.mp h.ok y hy
    · rw [List.mem_singleton.mp hy]; exact h2
theorem Ss.set {S : Sto} {k : Nat} {x : Vl} (h : Ss S) (h1 : rfB 0 x = true) (h2 : nlO x = true) : Ss (S.set k x) where
  rf := List.all_eq_true.mpr fun y hy => by
    rcases List.mem_or_eq_of_mem_set hy with hy | rfl
    · exact List.all_eq_true.mp h.rf y hy
    · exact h1
  ok := List.all_eq_true.mpr fun y hy => by
    rcases List.mem_or_eq_of_mem_set hy with hy | rfl
    · exact List.all_eq_true.mp h.ok y hy
    · exact h2
theorem Ss.st {S : Sto} {P : Pv} {i : Nat} (h : Ss S) : Ss (stS S P i) := by
  induction i with
  | zero =>
    show Ss (S ++ [dkV P] ++ [])
    rw [List.append_nil]
    exact h.app (rfB_tups (fun p : Nat × List Int => p.2) P) (nlB_tups (fun p : Nat × List Int => p.2) P)
  | succ i ih =>
    have e : stS S P (i + 1) = stS S P i ++ [ltV []] := by
      show S ++ [dkV P] ++ List.replicate (i + 1) (ltV []) = S ++ [dkV P] ++ List.replicate i (ltV []) ++ [ltV []]
      rw [List.replicate_succ', List.append_assoc, List.append_assoc, List.append_assoc]
    rw [e]
    exact ih.app rfl rfl
/-- the stair of some rows -/
abbrev stP (w n : Nat) (ts : List (Bool × List Int)) : Pv := stairP (2 ^ w) n 100000 (ts.map fun t => redL (2 ^ w) t.2) []
/-- their echelon -/
def echR (w n : Nat) (ts : List (Bool × List Int)) : List (List Int) := tidL (2 ^ w) n (stP w n ts) (cols (stP w n ts))
abbrev Mod (w n : Nat) (ts : List (Bool × List Int)) (v : Nat → Int) : Prop := Sp (2 ^ w) n (fun x => x ∈ ts.map (·.2)) v
section
variable {w n : Nat} {ts : List (Bool × List Int)}
theorem stP_k : KInv n (stP w n ts) := KInv.stair _ _ KInv.none
theorem stP_ok (hw : w ≤ 64) (hn : n < 64) (h : AllLen n ts) : PInv w n (getP (stP w n ts)) [] ∧ ∀ v, Sp (2 ^ w) n (Gn (getP (stP w n ts)) 0 []) v ↔ Mod w n ts v := by
  have hM := two_pow_pos w
  have hrs : ∀ r ∈ ts.map (fun t => redL (2 ^ w) t.2), Rw (2 ^ w) n r := fun r hr => by
    obtain ⟨t, ht, rfl⟩ := List.mem_map.mp hr
    exact rw_red hM (h t ht)
  have hf : n * w + 1 < 100000 := by
    have : n * w ≤ 64 * 64 := Nat.mul_le_mul (by omega) hw
    omega
  obtain ⟨I, Sm⟩ := stair_ok hw hf _ [] hrs pinv_nil
  refine ⟨I, fun v => ?_⟩
  rw [← Sm v]
  refine Iff.trans ?_ (red_span h v)
  refine ⟨fun q => q.sub fun x hx => ?_, fun q => q.sub fun x hx => .inr ⟨hx, fun k hk => by omega⟩⟩
  rcases hx with ⟨b, _, e⟩ | ⟨hx, _⟩
  · cases e
  · exact hx
theorem cs_cols : Cs (stP w n ts) 0 (cols (stP w n ts)) := ⟨cols_lt stP_k, fun a ha => ⟨Nat.zero_le _, cols_mem.mp ha⟩, fun b _ hb => cols_mem.mpr hb⟩
/- b_echelon -/
theorem ech_ok {b : Bool} {S : Sto} (h0 : 1 ≤ w) (hw : w ≤ 64) (hn : n < 64) (h : AllLen n ts) : Ret (m_echelon [.int w, .int n, rowsE b ts] S) fun v S1 => v = .ref (stS S (stP w n ts) ts.length).length ∧ S1 = stS S (stP w n ts) ts.length ++ [.lst ((echR w n ts).map tupI)] := by
  have hM := two_pow_pos w
  have hrs : ∀ r ∈ ts.map (fun t => redL (2 ^ w) t.2), Rw (2 ^ w) n r := fun r hr => by
    obtain ⟨t, ht, rfl⟩ := List.mem_map.mp hr
    exact rw_red hM (h t ht)
  unfold m_echelon b_echelon
  refine w_run ?_
  walk_at "wp"
  refine (rows_ok h0 hw h).mono ?_
  rintro _ S1 ⟨rfl, rfl⟩
  walk_at "wp"
  refine (stair_ok' hw (by omega) hrs).mono ?_
  rintro _ S2 ⟨rfl, hK, rfl⟩
  rw [List.length_map]
  walk_at "wp"
  refine (tidied_ok hw stS_k (stP_ok hw hn h).1 hK hn).mono ?_
  rintro _ S3 ⟨rfl, rfl⟩
  exact ⟨rfl, rfl⟩
end
theorem stS_len {S : Sto} {P : Pv} {i : Nat} : S.length ≤ (stS S P i).length := by
  show S.length ≤ (S ++ [dkV P] ++ List.replicate i (ltV [])).length
  rw [List.length_append, List.length_append]
  omega
theorem stS_take {S : Sto} {P : Pv} {i : Nat} : (stS S P i).take S.length = S := by
  show (S ++ [dkV P] ++ List.replicate i (ltV [])).take S.length = S
  rw [List.append_assoc]
  exact List.take_left ..
section
variable {w n : Nat} {ts : List (Bool × List Int)}
/-- echelon, its list taken out of the store -/
theorem ech_P {b : Bool} {S : Sto} (h0 : 1 ≤ w) (hw : w ≤ 64) (hn : n < 64) (h : AllLen n ts) (hS : Ss S) :
    Ret (m_echelon [.int w, .int n, rowsE b ts] S) fun x S1 => nlB x = true ∧ stOk S1 = true ∧ S1.all (rfB S.length) = true ∧ ∃ k, x = .ref k ∧ S.length ≤ k ∧ S1[k]? = some (.lst ((echR w n ts).map tupI)) ∧ S1.take S.length = S := by
  refine (ech_ok h0 hw hn h).mono ?_
  rintro _ S1 ⟨rfl, rfl⟩
  have hs2 : Ss (stS S (stP w n ts) ts.length ++ [.lst ((echR w n ts).map tupI)]) := hS.st.app (rfB_tups (fun p : List Int => p) _) (nlB_tups (fun p : List Int => p) _)
  refine ⟨rfl, hs2.ok, all_le (Nat.zero_le _) hs2.rf, _, rfl, stS_len, by rw [List.getElem?_append_right (Nat.le_refl _), Nat.sub_self]; rfl, ?_⟩
  rw [List.take_append_of_le_length stS_len, stS_take]
/-- _law_elements, its dict taken out of the store -/
abbrev fV (nss : List (List Int)) (vs : Tv) : Vl := .fdt (nss.map kI) vs.1
theorem el_P {b : Bool} {S : Sto} (hw : w ≤ 6) (hn : n ≤ 6) (hb : ((2 : Int) ^ w) ^ n ≤ 64) (h : AllLen n ts) (hS : Ss S) :
    Ret (m__law_elements [.int w, .int n, rowsE b ts] S) fun x S1 => S1.all (rfB S.length) = true ∧ ∃ nss vs, x = .ref S.length ∧ S1[S.length]? = some (dV nss vs) ∧ S1.take S.length = S ∧ El w n nss ∧ ∀ x, Rw (2 ^ w) n x → (x ∈ nss ↔ Mod w n ts (Md.ent x)) := by
  refine (elements_ok hw hn hb h).mono ?_
  rintro _ S1 ⟨nss, vs, rfl, rfl, hE, hi⟩
  refine ⟨List.all_eq_true.mpr fun y hy => ?_, nss, vs, rfl, by rw [List.getElem?_append_right (Nat.le_refl _), Nat.sub_self]; rfl, List.take_left .., hE, hi⟩
  rcases List.mem_append.mp hy with hy | hy
  · exact rfB_le (Nat.zero_le _) (List.all_eq_true.mp hS.rf y hy)
  · rw [List.mem_singleton.mp hy]
    exact rfBs_le (Nat.zero_le _) vs.2
end
end G11

set_option Elab.async false
set_option linter.all false
set_option maxRecDepth 100000
set_option autoImplicit false
set_option maxHeartbeats 1000000
namespace G11
open PySem PySem.Spec L2 Dm Md
local macro_rules | `(tactic| walk_at "wp") => `(tactic| (repeat (first | ((with_reducible apply w_var); exact rfl) | with_reducible refine w_c ?_ | with_reducible refine w_bin ?_ | with_reducible refine w_cons ?_ | with_reducible refine w_nil ?_ | with_reducible refine w_call ?_ | with_reducible refine w_fld ?_ | with_reducible refine w_assoc ?_ | with_reducible refine w_qnil ?_ | with_reducible refine w_qset ?_ | with_reducible refine w_qret ?_ | with_reducible refine w_qfor ?_ | with_reducible refine w_for ?_ | with_reducible refine w_nilS ?_ | with_reducible refine w_ret ?_ | with_reducible refine w_set ?_ | with_reducible refine ⟨_, _, rfl, rfl, ?_⟩ | with_reducible refine ⟨_, _, _, rfl, rfl, ?_⟩ | with_reducible refine ⟨_, _, _, _, rfl, rfl, rfl, ?_⟩ | ((with_reducible refine ⟨_, f_fdiv ?_ ?_, ?_⟩); (first | assumption | omega | decide); (first | assumption | omega | decide)) | ((with_reducible refine ⟨_, f_mul ?_, ?_⟩); omega) | ((with_reducible refine ⟨_, f_shl ?_, ?_⟩); (first | omega | decide)) | with_reducible refine ⟨_, rfl, ?_⟩ | with_reducible refine ret_ok.mpr ?_ | refine w_yes rfl ?_ | refine w_no rfl ?_ | ((with_reducible refine w_yes (decide_eq_true ?_) ?_); omega) | ((with_reducible refine w_no (decide_eq_false ?_) ?_); omega) | ((with_reducible refine w_nyes ?_ ?_); omega) | ((with_reducible refine w_nno ?_ ?_); omega))))
theorem cntP_snoc (M : Int) (a : Nat) (p : List Int) : ∀ P : Pv, cntP M (P ++ [(a, p)]) = cntP M P * (M / Md.ent p a).toNat
  | [] => by show _ * 1 = 1 * _; omega
  | (b, q) :: P => by
    rw [List.cons_append]
    show _ * cntP M (P ++ [(a, p)]) = _ * cntP M P * _
    rw [cntP_snoc M a p P, Nat.mul_assoc]
theorem getP_mem : ∀ {P : Pv} {a : Nat} {p : List Int}, (P.map (·.1)).Nodup → (a, p) ∈ P → getP P a = some p
  | (b, q) :: P, a, p, hd, h => by
    rw [List.map_cons, List.nodup_cons] at hd
    unfold getP
    rcases List.mem_cons.mp h with e | e
    · cases e
      rw [if_pos rfl]
    · rw [if_neg, getP_mem hd.2 e]
      intro z
      subst z
      exact hd.1 (List.mem_map.mpr ⟨_, e, rfl⟩)
theorem itL_piv : ∀ P : Pv, itL (P.map fun p => (.inl (p.1 : Int) : L2.Key)) (P.map fun p => tupI p.2) = P.map fun p => .tup [.int (p.1 : Int), tupI p.2]
  | [] => rfl
  | p :: P => congrArg (Vl.tup [.int (p.1 : Int), tupI p.2] :: ·) (itL_piv P)
section
variable {w n : Nat} {ts : List (Bool × List Int)}
/- b_count -/
theorem count_ok {b : Bool} {S : Sto} (h0 : 1 ≤ w) (hw : w ≤ 6) (hn : n < 64) (h : AllLen n ts) (hS : Ss S) : Ret (m_count [.int w, .int n, rowsE b ts] S) fun v S1 => v = .int (cntP (2 ^ w) (stP w n ts)) ∧ S1 = S := by
  have hM := two_pow_pos w
  have h64 : (2 : Int) ^ w ≤ 64 := by
    have h1 : (2 : Int) ^ w ≤ 2 ^ 6 := Int.le_of_dvd (two_pow_pos 6) (pow_dv hw)
    have h2 : (2 : Int) ^ 6 = 64 := by decide
    omega
  have hrs : ∀ r ∈ ts.map (fun t => redL (2 ^ w) t.2), Rw (2 ^ w) n r := fun r hr => by
    obtain ⟨t, ht, rfl⟩ := List.mem_map.mp hr
    exact rw_red hM (h t ht)
  obtain ⟨I, _⟩ := stP_ok (w := w) (by omega) hn h
  have hK : KInv n (stP w n ts) := stP_k
  unfold m_count b_count
  refine w_run ?_
  walk_at "wp"
  refine w_itemsI ?_
  refine w_popZk ?_
  walk_at "wp"
  refine (rows_ok h0 (by omega) h).mono ?_
  rintro _ S1 ⟨rfl, rfl⟩
  walk_at "wp"
  refine (stair_ok' (by omega) (by omega) hrs).mono ?_
  rintro _ S2 ⟨rfl, _, rfl⟩
  rw [List.length_map]
  walk_at "wp"
  refine ⟨all_le (Nat.zero_le _) hS.st.rf, _, _, _, rfl, Nat.le_refl _, stS_k, ?_⟩
  rw [stS_take]
  refine ⟨_, _, rfl, ?_⟩
  rw [itL_piv]
  unfold stP at I hK ⊢
  generalize hP : stairP (2 ^ w) n 100000 (ts.map fun t => redL (2 ^ w) t.2) [] = P at I hK ⊢
  refine (loop_ret (fun i env S' => S' = S1 ∧ ∃ s4 s5, env = [.v (.int w), .v (.int n), .v (rowsE b ts), .v (.int (cntP (2 ^ w) (P.take i))), s4, s5]) _ 0 _ _ ⟨rfl, .un, .un, rfl⟩ ?_).mono ?_
  · rintro i x env S2 hx ⟨rfl, s4, s5, rfl⟩
    rw [Nat.zero_add]
    obtain ⟨⟨a, p⟩, hi, rfl⟩ := map_at hx
    have hil := (List.getElem?_eq_some_iff.mp hi).1
    have hg := getP_mem hK.nd (List.mem_of_getElem? hi)
    obtain ⟨han, hp, _, e, he, hpa⟩ := I.piv a p hg
    have hp0 : 0 < Md.ent p a := by rw [hpa]; exact two_pow_pos e
    have hp200 : Md.ent p a < 2 ^ 200 := by have := hp.bd a han; omega
    have hpl : a < p.length := by rw [hp.len]; exact han
    have q0 : 0 ≤ (2 : Int) ^ w / Md.ent p a := Int.ediv_nonneg (by omega) (by omega)
    have q1 : (2 : Int) ^ w / Md.ent p a ≤ 2 ^ w := Int.ediv_le_self _ (by omega)
    refine ⟨_, rfl, ?_⟩
    walk_at "wp"
    refine ⟨_, ix_row hpl, ?_⟩
    rw [shw]
    refine ⟨_, f_fdiv hp0 hp200, _, f_mul (.inr (by show -(2 ^ 64) < (2 : Int) ^ w / Md.ent p a ∧ (2 : Int) ^ w / Md.ent p a < 2 ^ 64; omega)), ?_⟩
    have e2 : P.take (i + 1) = P.take i ++ [(a, p)] := by
      rw [List.take_succ_eq_append_getElem hil]
      congr 2
      exact Option.some.inj ((List.getElem?_eq_getElem hil).symm.trans hi)
    have e3 : (((2 : Int) ^ w / Md.ent p a).toNat : Int) = 2 ^ w / Md.ent p a := Int.toNat_of_nonneg q0
    rw [e2, cntP_snoc, Int.natCast_mul, e3]
    exact ⟨_, .inl rfl, rfl, _, _, rfl⟩
  · rintro _ S2 ⟨e, rfl, rfl, s4, s5, rfl⟩
    dsimp only
    walk_at "wp"
    rw [Nat.zero_add, List.length_map, List.take_length]
    exact ⟨rfl, rfl⟩
/-- as many as there are elements -/
theorem count_len (hw : w ≤ 6) (hn : n < 64) (h : AllLen n ts) {nss : List (List Int)} (hE : El w n nss) {ts0 : List (Bool × List Int)} (hm : ∀ v, Mod w n ts v ↔ Mod w n ts0 v) (hi : ∀ x, Rw (2 ^ w) n x → (x ∈ nss ↔ Mod w n ts0 (Md.ent x))) : cntP (2 ^ w) (stP w n ts) = nss.length := by
  obtain ⟨I, Sm⟩ := stP_ok (w := w) (by omega) hn h
  have hK : KInv n (stP w n ts) := stP_k
  rw [cntP_ok hK.nd hK.lt]
  refine (els_count I hE.nd fun x => ?_).symm
  constructor
  · intro hx
    have hr := hE.rw_ x hx
    exact ⟨hr, (Sm _).mpr ((hm _).mpr ((hi x hr).mp hx))⟩
  · rintro ⟨hr, q⟩
    exact (hi x hr).mpr ((hm _).mp ((Sm _).mp q))
end
end G11

set_option Elab.async false
set_option linter.all false
set_option maxRecDepth 100000
set_option autoImplicit false
set_option maxHeartbeats 1000000
namespace G11
open PySem PySem.Spec L2 Dm Md
theorem intKT_kI : ∀ nss : List (List Int), intKT (nss.map kI) = some nss
  | [] => rfl
  | x :: nss => by
    have e : ∀ x : List Int, intKs (kI x) = some x := fun x => by
      unfold kI
      induction x with
      | nil => rfl
      | cons a x ih => rw [List.map_cons]; unfold intKs; rw [ih]; rfl
    rw [List.map_cons]
    unfold intKT
    rw [e x, intKT_kI nss]
theorem el_okT {w n : Nat} {nss : List (List Int)} (hw : w ≤ 64) (h : El w n nss) : okT nss = true := by
  have h64 := p64 hw
  have hlen : ∀ x ∈ nss, x.length = (nss.headD []).length := fun x hx => by
    cases nss with
    | nil => cases hx
    | cons y nss => exact (h.rw_ x hx).len.trans (h.rw_ y (List.mem_cons_self ..)).len.symm
  unfold okT
  refine List.all_eq_true.mpr fun x hx => ?_
  rw [Bool.and_eq_true, Bool.and_eq_true]
  refine ⟨⟨decide_eq_true (hlen x hx), List.all_eq_true.mpr fun a ha => ?_⟩, ?_⟩
  · have := rw_bd (h.rw_ x hx) a ha
    have hB : B64 = 2 ^ 64 := by decide
    rw [Bool.and_eq_true]
    exact ⟨decide_eq_true this.1, decide_eq_true (by rw [hB]; omega)⟩
  · rw [Bool.or_eq_true]
    by_cases hn : 1 ≤ (nss.headD []).length
    · exact .inl (decide_eq_true hn)
    · refine .inr (decide_eq_true ?_)
      have h0 : ∀ y ∈ nss, y = [] := fun y hy => List.eq_nil_of_length_eq_zero (by have := hlen y hy; omega)
      match nss, h0, h.nd with
      | [], _, _ => simp
      | [_], _, _ => simp
      | a :: b :: r, h0, hd =>
        have e1 := h0 a (List.mem_cons_self ..)
        have e2 := h0 b (List.mem_cons_of_mem _ (List.mem_cons_self ..))
        rw [e1, e2] at hd
        simp at hd
theorem f_sortT {w n : Nat} {S : Sto} {nss : List (List Int)} {vs : Tv} (hw : w ≤ 64) (h : El w n nss) : sortTF S [fV nss vs] = some (.lst ((isortB cod nss).map tupI)) := by
  show (match intKT (nss.map kI) with | some nss => _ | none => none) = _
  rw [intKT_kI]
  exact if_pos (el_okT hw h)
theorem tupIs_map : ∀ l : List (List Int), tupIs (l.map tupI) = some l
  | [] => rfl
  | x :: l => by
    rw [List.map_cons]
    unfold tupIs tupI
    dsimp only
    rw [nums_ints, show tupIs (l.map fun ns => Vl.tup (ns.map .int)) = some l from tupIs_map l]
theorem f_sortL {w n : Nat} {S : Sto} {l : List (List Int)} (hw : w ≤ 64) (h : El w n l) : sortLF S [.lst (l.map tupI)] = some (.lst ((isortB cod l).map tupI)) := by
  show (match tupIs (l.map tupI) with | some nss => _ | none => none) = _
  rw [tupIs_map]
  exact if_pos (el_okT hw h)
theorem code_bd {w n : Nat} (hw : w ≤ 64) {x : List Int} (hx : Rw (2 ^ w) n x) : TS.Bd B64 x := fun a ha => by
  have h64 := p64 hw
  have := rw_bd hx a ha
  have hB : B64 = 2 ^ 64 := by decide
  rw [hB]
  omega
/-- sorted: only what is there counts -/
theorem sort_same {w n : Nat} {a b : List (List Int)} (hw : w ≤ 64) (ha : El w n a) (hb : El w n b) (h : ∀ x, x ∈ a ↔ x ∈ b) : isortB cod a = isortB cod b := by
  have hp : a.Perm b := (List.perm_ext_iff_of_nodup ha.nd hb.nd).mpr h
  refine sortedB_uniq (f := cod) ((isortB_perm a).trans (hp.trans (isortB_perm b).symm)) (fun x hx y hy e => ?_) (isortB_sorted a) (isortB_sorted b)
  have h1 := ha.rw_ x ((isortB_perm a).mem_iff.mp hx)
  have h2 := ha.rw_ y ((isortB_perm a).mem_iff.mp hy)
  exact code_inj (h1.len.trans h2.len.symm) (code_bd hw h1) (code_bd hw h2) e
theorem okD_rows (l : List (List Int)) : okD (.lst (l.map tupI)) = true := all_map (n := 59) tupI fun x _ => all_map (n := 58) Vl.int fun _ _ => rfl
theorem neR_self {S : Sto} {l : List (List Int)} : neF S (.lst (l.map tupI)) (.lst (l.map tupI)) = some (.bl false) := by
  rw [f_ne (S := S) (x := .lst (l.map tupI)) (y := .lst (l.map tupI)) (okD_rows l) (okD_rows l)]
  exact congrArg (fun k => some (Vl.bl (!k))) (eqv_self (x := .lst (l.map tupI)) (okD_rows l))
theorem eqR_self {S : Sto} {l : List (List Int)} : eqF S (.lst (l.map tupI)) (.lst (l.map tupI)) = some (.bl true) := by
  rw [f_eq (S := S) (x := .lst (l.map tupI)) (y := .lst (l.map tupI)) (okD_rows l) (okD_rows l)]
  exact congrArg (fun k => some (Vl.bl k)) (eqv_self (x := .lst (l.map tupI)) (okD_rows l))
theorem eqL_nil {S : Sto} {x : Int} {l : List Int} : eqF S (.lst ((x :: l).map .int)) (.lst []) = some (.bl false) := by
  have h1 : okD (.lst ((x :: l).map .int)) = true := all_map (n := 59) Vl.int fun _ _ => rfl
  rw [f_eq (S := S) (x := .lst ((x :: l).map .int)) (y := .lst []) h1 rfl]
  exact congrArg (fun k => some (Vl.bl k)) (eqv_no (x := .lst ((x :: l).map .int)) (y := .lst []) (nbBs_map Vl.int (fun _ => rfl) _) rfl (fun z => by cases z))
theorem inV_ints (k : Int) : ∀ l : List Int, inV (.int k) ((l.map Vl.int).map Dm.fV) = decide (k ∈ l)
  | [] => rfl
  | q :: l => by
    show (eqV (.int q) (.int k) || inV (.int k) ((l.map Vl.int).map Dm.fV)) = _
    rw [inV_ints k l]
    show ((q == k) || decide (k ∈ l)) = _
    by_cases h : q = k
    · subst h
      simp
    · have h2 : ¬ k = q := fun z => h z.symm
      simp [h, h2]
theorem f_notInI {S : Sto} {k : Int} {l : List Int} : notInF S (.int k) (.lst (l.map .int)) = some (.bl (!decide (k ∈ l))) := by
  have hf : (l.map Vl.int).all Vl.flat = true := by
    rw [List.all_map]
    exact List.all_eq_true.mpr fun _ _ => rfl
  show (if (true && (l.map Vl.int).all Vl.flat) = true then some (inV (.int k) ((l.map Vl.int).map Dm.fV)) else none).map (fun b => Vl.bl (!b)) = _
  rw [hf, if_pos (by rfl), inV_ints]
  rfl
theorem f_anyI {r : List Int} {S : Sto} : anyIF S [tupI r] = some (.bl (r.any fun x => x != 0)) := by
  show (nums (r.map Vl.int)).map _ = _
  rw [nums_ints]
  rfl
/-- what enumerate shows of a row of numbers -/
def enP (r : List Int) : List (Nat × Int) := (List.range r.length).zip r
theorem enL_ints (r : List Int) : enL (r.map Vl.int) = (enP r).map fun q => .tup [.int (q.1 : Int), .int q.2] := by
  unfold enL enP
  rw [List.length_map]
  generalize List.range r.length = l
  induction r generalizing l with
  | nil => cases l <;> rfl
  | cons x r ih =>
    cases l with
    | nil => rfl
    | cons i l => exact congrArg (Vl.tup [.int (i : Int), .int x] :: ·) (ih l)
/-- the places of numbers other than 0 begin with the first one -/
theorem spots_head {r : List Int} {a : Nat} (ha : a < r.length) (hz : Zb a r) (h0 : Md.ent r a ≠ 0) : ∃ l, ((enP r).filter fun q => !decide (q.2 = 0)).map (fun q => (q.1 : Int)) = (a : Int) :: l := by
  have hl : (enP r).length = r.length := by
    unfold enP
    rw [List.length_zip, List.length_range, Nat.min_self]
  have hg : ∀ i (h : i < (enP r).length), (enP r)[i] = (i, Md.ent r i) := fun i h => by
    have hi : i < r.length := by rw [← hl]; exact h
    have e : Md.ent r i = r[i] := by
      show r.getD i 0 = _
      rw [List.getD_eq_getElem?_getD, List.getElem?_eq_getElem hi]
      rfl
    rw [e]
    have e2 : (enP r)[i]? = some (i, r[i]) := (List.getElem?_zip_eq_some (z := (i, r[i]))).mpr ⟨List.getElem?_range hi, List.getElem?_eq_getElem hi⟩
    exact Option.some.inj ((List.getElem?_eq_getElem h).symm.trans e2)
  have ha' : a < (enP r).length := by rw [hl]; exact ha
  have e1 : enP r = (enP r).take a ++ (enP r)[a] :: (enP r).drop (a + 1) := by
    rw [← List.drop_eq_getElem_cons ha', List.take_append_drop]
  have e2 : ((enP r).take a).filter (fun q => !decide (q.2 = 0)) = [] := by
    rw [List.filter_eq_nil_iff]
    intro q hq
    obtain ⟨i, hi, rfl⟩ := List.getElem_of_mem hq
    rw [List.length_take] at hi
    rw [List.getElem_take, hg i (by omega), hz i (by omega)]
    simp
  rw [e1, List.filter_append, e2, List.nil_append, hg a ha']
  rw [List.filter_cons_of_pos (by simpa using h0), List.map_cons]
  exact ⟨_, rfl⟩
/-- rows in steps -/
structure StpR (w n : Nat) (R : List (List Int)) (cs : List Nat) : Prop where
  st : cs.Pairwise (· < ·)
  row : ∀ (i : Nat) (r : List Int), R[i]? = some r → ∃ a e, cs[i]? = some a ∧ a < n ∧ Rw (2 ^ w) n r ∧ Zb a r ∧ e < w ∧ Md.ent r a = 2 ^ e
  lt : ∀ (j i : Nat) (x y : List Int) (a : Nat), j < i → R[j]? = some x → R[i]? = some y → cs[i]? = some a → Md.ent x a < Md.ent y a
theorem ech_stp {w n : Nat} {ts : List (Bool × List Int)} (hw : w ≤ 64) (hn : n < 64) (h : AllLen n ts) : StpR w n (echR w n ts) (cols (stP w n ts)) := by
  obtain ⟨I, _⟩ := stP_ok hw hn h
  have hC : Cs (stP w n ts) 0 (cols (stP w n ts)) := cs_cols
  refine ⟨hC.st, fun i r hr => ?_, fun j i x y a hji hx hy ha => ?_⟩
  · obtain ⟨a, p, h1, h2, t⟩ := tidL_get I hC hr
    obtain ⟨han, _, _, e, he, hpa⟩ := I.piv a p h2
    exact ⟨a, e, h1, han, t.rw_, t.zb, he, by rw [t.piv, hpa]⟩
  · obtain ⟨b, p, h1, h2, t⟩ := tidL_get I hC hx
    obtain ⟨a', q, h3, h4, t2⟩ := tidL_get I hC hy
    rw [ha] at h3
    cases h3
    rw [t2.piv]
    have hjl := (List.getElem?_eq_some_iff.mp h1)
    have hil := (List.getElem?_eq_some_iff.mp ha)
    have := List.pairwise_iff_getElem.mp hC.st j i hjl.1 hil.1 hji
    rw [hjl.2, hil.2] at this
    exact t.lt a q h4 this
/-- the same module, the same echelon -/
theorem ech_same {w n : Nat} {ts ts2 : List (Bool × List Int)} (hw : w ≤ 64) (hn : n < 64) (h : AllLen n ts) (h2 : AllLen n ts2) (hm : ∀ v, Mod w n ts v ↔ Mod w n ts2 v) : echR w n ts = echR w n ts2 := by
  obtain ⟨I, S1⟩ := stP_ok hw hn h
  obtain ⟨I2, S2⟩ := stP_ok hw hn h2
  exact tidL_uniq I I2 (fun v => (S1 v).trans ((hm v).trans (S2 v).symm)) cs_cols cs_cols
end G11

set_option Elab.async false
set_option linter.all false
set_option maxRecDepth 100000
set_option autoImplicit false
set_option maxHeartbeats 1000000
namespace G11
open PySem PySem.Spec L2 Dm Md
local macro_rules | `(tactic| walk_at "wp") => `(tactic| (repeat (first | ((with_reducible apply w_var); exact rfl) | with_reducible refine w_c ?_ | with_reducible refine w_bin ?_ | with_reducible refine w_un ?_ | with_reducible refine w_tv ?_ | with_reducible refine w_cons ?_ | with_reducible refine w_nil ?_ | with_reducible refine w_lst ?_ | with_reducible refine w_orT ?_ | with_reducible refine w_notT ?_ | with_reducible refine w_ch ?_ | with_reducible refine w_isi ?_ | with_reducible refine w_sl ?_ | with_reducible refine w_oN ?_ | with_reducible refine w_oS ?_ | with_reducible refine w_seqI ?_ | with_reducible refine w_rng2 ?_ | with_reducible refine w_rng1 ?_ | with_reducible refine w_enI ?_ | ((with_reducible apply w_comp); exact rfl) | with_reducible refine w_assoc ?_ | with_reducible refine w_qnil ?_ | with_reducible refine w_qset ?_ | with_reducible refine w_qret ?_ | with_reducible refine w_qif ?_ | with_reducible refine w_qfor ?_ | with_reducible refine w_for ?_ | with_reducible refine w_nilS ?_ | with_reducible refine w_ret ?_ | with_reducible refine w_ifS ?_ | with_reducible refine w_set ?_ | with_reducible refine ⟨_, f_neg, ?_⟩ | with_reducible refine ⟨_, f_cmp, ?_⟩ | with_reducible refine ⟨_, f_neI, ?_⟩ | with_reducible refine ⟨_, f_eqI, ?_⟩ | with_reducible refine ⟨_, f_notInD, ?_⟩ | with_reducible refine ⟨_, f_notInT, ?_⟩ | with_reducible refine ⟨_, tyQ, ?_⟩ | with_reducible refine ⟨_, seqQ, ?_⟩ | with_reducible refine ⟨_, _, rfl, seqQ, ?_⟩ | with_reducible refine ⟨_, _, rfl, rfl, ?_⟩ | with_reducible refine ⟨_, _, _, rfl, rfl, ?_⟩ | with_reducible refine ⟨_, _, _, _, rfl, rfl, rfl, ?_⟩ | with_reducible refine ⟨_, f_slL, ?_⟩ | with_reducible refine ⟨_, f_slT, ?_⟩ | ((with_reducible refine ⟨_, f_shl ?_, ?_⟩); (first | omega | decide)) | with_reducible refine ⟨_, f_notInL, ?_⟩ | with_reducible refine ⟨_, rfl, ?_⟩ | with_reducible refine ret_ok.mpr ?_ | refine w_yes rfl ?_ | refine w_no rfl ?_ | ((with_reducible refine w_yes (decide_eq_true ?_) ?_); omega) | ((with_reducible refine w_no (decide_eq_false ?_) ?_); omega) | ((with_reducible refine w_nyes ?_ ?_); omega) | ((with_reducible refine w_nno ?_ ?_); omega))))
def stBody : SM := (seqS (ifS (orT (notT (tv (isiM [.tup] (varM 5)))) (tv (bin2 neF (compM (seqI (varM 5)) [8] (tfN 8) (notT (tv (ch3 leF ltF (cM (.int 0)) (varM 8) (bin2 shlF (cM (.int 1)) (varM 0))))) (varM 8)) (lstM nilA)))) (retS (cM (.bl false))) nilS) (seqS (setS 6 (compM (enI (consA (varM 5) nilA)) [7, 8] (tfT (tfCons (tfN 7) (tfCons (tfN 8) tfNil))) (tv (bin2 neF (varM 8) (cM (.int 0)))) (varM 7))) (seqS (ifS (orT (tv (bin2 eqF (varM 6) (lstM nilA))) (orT (tv (bin2 leF (bin2 ixF (varM 6) (cM (.int 0))) (varM 3))) (tv (bin2 notInF (bin2 ixF (varM 5) (bin2 ixF (varM 6) (cM (.int 0)))) (compM (rngI (consA (varM 0) nilA)) [7] (tfN 7) yesT (bin2 shlF (cM (.int 1)) (varM 7))))))) (retS (cM (.bl false))) nilS) (seqS (setS 3 (bin2 ixF (varM 6) (cM (.int 0)))) (ifS (tv (bin2 neF (compM (seqI (slM (varM 2) oN (oS (varM 4)))) [9] (tfN 9) (tv (bin2 geF (bin2 ixF (varM 9) (varM 3)) (bin2 ixF (varM 5) (varM 3)))) (varM 9)) (lstM nilA))) (retS (cM (.bl false))) nilS)))))
/- b__law_steps_right -/
theorem st_turn {w n i a e : Nat} {R : List (List Int)} {r : List Int} {last : Int} {s6 : Sv} {S : Sto} (hw : w ≤ 64) (hr : Rw (2 ^ w) n r) (ha : a < n) (hz : Zb a r) (he : e < w) (hp : Md.ent r a = 2 ^ e) (hl : last < a) (hi : i ≤ R.length) (hR : ∀ x ∈ R.take i, x.length = n ∧ Md.ent x a < Md.ent r a) :
    Ret (stBody [.v (.int w), .v (.int n), .v (.lst (R.map tupI)), .v (.int last), .v (.int i), .v (tupI r), s6, .un, .un, .un] S) fun fl S1 => ∃ s6', fl = .nx [.v (.int w), .v (.int n), .v (.lst (R.map tupI)), .v (.int a), .v (.int i), .v (tupI r), s6', .un, .un, .un] ∧ S1 = S := by
  have hpos := two_pow_pos e
  obtain ⟨l, hsp⟩ := spots_head (r := r) (a := a) (by rw [hr.len]; exact ha) hz (by omega)
  unfold stBody
  walk_at "wp"
  refine comp_flt Vl.int Vl.int (fun _ => false) r (fun x hx => ⟨_, rfl, ?_, fun z => by cases z⟩) ?_
  · obtain ⟨k, hk, rfl⟩ := List.getElem_of_mem hx
    have hb := hr.bd k (by rw [← hr.len]; exact hk)
    have e : Md.ent r k = r[k] := by
      show r.getD k 0 = _
      rw [List.getD_eq_getElem?_getD, List.getElem?_eq_getElem hk]
      rfl
    rw [e] at hb
    obtain ⟨a0, a1⟩ := hb
    walk_at "wp"
    rw [shw]
    walk_at "wp"
    exact ⟨by rw [decide_eq_true a1]; rfl, rfl⟩
  rw [List.filter_eq_nil_iff.mpr (fun a _ => by simp)]
  walk_at "wp"
  rw [enL_ints]
  refine comp_flt (fun q : Nat × Int => Vl.tup [.int (q.1 : Int), .int q.2]) (fun q => .int (q.1 : Int)) (fun q => !decide (q.2 = 0)) (enP r) (fun q hq => ⟨_, rfl, ?_, fun z => ?_⟩) ?_
  · walk_at "wp"
    exact ⟨rfl, rfl⟩
  · walk_at "wp"
    exact ⟨rfl, rfl⟩
  have e0 : ((enP r).filter fun q => !decide (q.2 = 0)).map (fun q => Vl.int (q.1 : Int)) = ((a : Int) :: l).map Vl.int := by
    rw [← hsp, List.map_map]
    rfl
  rw [e0]
  walk_at "wp"
  refine ⟨_, eqL_nil, ?_⟩
  have hix : ixF S (.lst (((a : Int) :: l).map Vl.int)) (.int 0) = some (.int (a : Int)) := f_ixL (atI_nat _ 0)
  walk_at "wp"
  refine ⟨_, hix, ?_⟩
  walk_at "wp"
  refine ⟨_, hix, ?_⟩
  walk_at "wp"
  refine ⟨_, ix_row (by rw [hr.len]; exact ha), ?_⟩
  walk_at "wp"
  refine ⟨by omega, ?_⟩
  rw [Int.toNat_natCast]
  refine comp_pure (fun k : Nat => Vl.int (0 + (k : Int))) (fun k => Vl.int (2 ^ k)) (List.range w) (fun k hk => ⟨_, rfl, ?_⟩) ?_
  · have hk := List.mem_range.mp hk
    rw [Int.zero_add]
    refine w_bin (w_c (w_var rfl ⟨_, shl_ok (w := k) (by omega), rfl, rfl⟩))
  have e1 : (List.range w).map (fun k => Vl.int (2 ^ k)) = ((List.range w).map fun k => (2 : Int) ^ k).map Vl.int := by rw [List.map_map]; rfl
  rw [e1]
  refine ⟨_, f_notInI, _, rfl, ?_⟩
  have hin : Md.ent r a ∈ (List.range w).map fun k => (2 : Int) ^ k := by rw [hp]; exact List.mem_map.mpr ⟨e, List.mem_range.mpr he, rfl⟩
  rw [decide_eq_true hin]
  walk_at "wp"
  refine ⟨_, hix, ?_⟩
  walk_at "wp"
  rw [cut_to hi]
  refine comp_flt tupI tupI (fun _ => false) (R.take i) (fun x hx => ⟨_, rfl, ?_, fun z => by cases z⟩) ?_
  · obtain ⟨hxl, hlt⟩ := hR x hx
    walk_at "wp"
    refine ⟨_, ix_row (by rw [hxl]; exact ha), ?_⟩
    walk_at "wp"
    refine ⟨_, ix_row (by rw [hr.len]; exact ha), ?_⟩
    walk_at "wp"
    exact ⟨decide_eq_false (by omega), rfl⟩
  rw [List.filter_eq_nil_iff.mpr (fun a _ => by simp)]
  walk_at "wp"
  rfl
theorem steps_ok {w n : Nat} {R : List (List Int)} {cs : List Nat} {S : Sto} (hw : w ≤ 64) (h : StpR w n R cs) : Ret (m__law_steps_right [.int w, .int n, .lst (R.map tupI)] S) fun v S1 => v = .bl true ∧ S1 = S := by
  unfold m__law_steps_right b__law_steps_right
  refine w_run ?_
  walk_at "wp"
  refine (loop_ret (fun i env S' => S' = S ∧ ∃ (last : Int) (s4 s5 s6 : Sv), env = [.v (.int w), .v (.int n), .v (.lst (R.map tupI)), .v (.int last), s4, s5, s6, .un, .un, .un] ∧ ∀ a, cs[i]? = some a → last < (a : Int)) _ 0 _ _ ⟨rfl, -1, .un, .un, .un, rfl, fun a _ => by omega⟩ ?_).mono ?_
  · rintro i x env S1 hx ⟨rfl, last, s4, s5, s6, rfl, hl⟩
    rw [Nat.zero_add] at hl ⊢
    obtain ⟨y, hy, rfl⟩ := enL_at hx
    obtain ⟨r, hr, rfl⟩ := map_at hy
    obtain ⟨a, e, h1, h2, h3, h4, h5, h6⟩ := h.row i r hr
    have hil := (List.getElem?_eq_some_iff.mp hr).1
    refine ⟨_, rfl, ?_⟩
    refine (st_turn (s6 := s6) hw h3 h2 h4 h5 h6 (hl a h1) (Nat.le_of_lt hil) (fun x hx => ?_)).mono ?_
    · obtain ⟨j, hj⟩ := List.getElem?_of_mem hx
      have hjl := (List.getElem?_eq_some_iff.mp hj).1
      rw [List.length_take] at hjl
      rw [List.getElem?_take_of_lt (by omega)] at hj
      obtain ⟨_, _, _, _, g3, _⟩ := h.row j x hj
      exact ⟨g3.len, h.lt j i x r a (by omega) hj hr h1⟩
    · rintro _ S2 ⟨s6', rfl, rfl⟩
      refine ⟨_, .inl rfl, rfl, a, _, _, s6', rfl, fun b hb => ?_⟩
      obtain ⟨i1, i2⟩ := List.getElem?_eq_some_iff.mp h1
      obtain ⟨j1, j2⟩ := List.getElem?_eq_some_iff.mp hb
      have := List.pairwise_iff_getElem.mp h.st i (i + 1) i1 j1 (Nat.lt_succ_self i)
      rw [i2, j2] at this
      omega
  · rintro _ S1 ⟨e, rfl, rfl, last, s4, s5, s6, rfl, _⟩
    dsimp only
    walk_at "wp"
    exact ⟨rfl, rfl⟩
end G11

set_option Elab.async false
set_option linter.all false
set_option maxRecDepth 100000
set_option autoImplicit false
set_option maxHeartbeats 1000000
namespace G11
open PySem PySem.Spec L2 Dm Md
local macro_rules | `(tactic| walk_at "wp") => `(tactic| (repeat (first | ((with_reducible apply w_var); exact rfl) | with_reducible refine w_c ?_ | with_reducible refine w_bin ?_ | with_reducible refine w_cB ?_ | with_reducible refine w_tv ?_ | with_reducible refine w_cons ?_ | with_reducible refine w_nil ?_ | with_reducible refine w_call ?_ | with_reducible refine w_assoc ?_ | with_reducible refine w_qnil ?_ | with_reducible refine w_qset ?_ | with_reducible refine w_qret ?_ | with_reducible refine w_qif ?_ | with_reducible refine w_qsetR ?_ | with_reducible refine w_nilS ?_ | with_reducible refine w_ret ?_ | with_reducible refine w_ifS ?_ | with_reducible refine w_set ?_ | with_reducible refine w_setR ?_ | with_reducible refine ⟨_, f_add, ?_⟩ | with_reducible refine ⟨_, f_cmp, ?_⟩ | with_reducible refine ⟨_, f_int, ?_⟩ | with_reducible refine ⟨_, f_intB, ?_⟩ | with_reducible refine ⟨_, f_lenL, ?_⟩ | with_reducible refine ⟨_, f_lenT, ?_⟩ | with_reducible refine ⟨_, f_lenQ, ?_⟩ | with_reducible refine ⟨_, _, rfl, rfl, ?_⟩ | with_reducible refine ⟨_, _, _, rfl, rfl, ?_⟩ | with_reducible refine ⟨_, _, _, _, rfl, rfl, rfl, ?_⟩ | ((with_reducible refine ⟨_, f_mod ?_, ?_⟩); (first | assumption | omega | decide)) | ((with_reducible refine ⟨_, f_fdiv ?_ ?_, ?_⟩); (first | assumption | omega | decide); (first | assumption | omega | decide)) | ((with_reducible refine ⟨_, f_mul ?_, ?_⟩); omega) | with_reducible refine ⟨_, rfl, ?_⟩ | ((with_reducible refine ⟨_, f_lenS ?_, ?_⟩); omega) | with_reducible refine ret_ok.mpr ?_ | refine w_yes rfl ?_ | refine w_no rfl ?_ | ((with_reducible refine w_yes (decide_eq_true ?_) ?_); omega) | ((with_reducible refine w_no (decide_eq_false ?_) ?_); omega) | ((with_reducible refine w_nyes ?_ ?_); omega) | ((with_reducible refine w_nno ?_ ?_); omega))))
/-- the store: a well at its beginning -/
structure Wl (S : Sto) : Prop where
  get : ∃ a b c, S[0]? = some (.lst [.int a, .int b, .int c])
  ss : Ss S
theorem Wl.lt {S : Sto} (h : Wl S) : 0 < S.length := by
  obtain ⟨a, b, c, e⟩ := h.get
  exact (List.getElem?_eq_some_iff.mp e).1
theorem Wl.set {S : Sto} (h : Wl S) (a b c : Int) : Wl (S.set 0 (.lst [.int a, .int b, .int c])) := ⟨⟨a, b, c, List.getElem?_set_self h.lt⟩, h.ss.set rfl rfl⟩
theorem get_set {S : Sto} {n : Nat} {x : Vl} (h : n < S.length) : (S.set n x)[n]? = some x := List.getElem?_set_self h
theorem draw_ok {S : Sto} {many : Int} (h : Wl S) (hm : 0 < many) (hm2 : many < 2 ^ 64) : Ret (m__law_draw [.ref 0, .int many] S) fun v S1 => (∃ i : Int, v = .int i ∧ 0 ≤ i ∧ i < many) ∧ Wl S1 := by
  obtain ⟨a, b, c, e⟩ := h.get
  unfold m__law_draw b__law_draw
  refine w_run ?_
  walk_at "wp"
  refine ⟨_, f_ixR e rfl, ?_⟩
  walk_at "wp"
  refine ⟨fun hk => ?_, fun hk => ?_⟩
  · walk_at "wp"
    refine ⟨_, f_ixR e rfl, ?_⟩
    walk_at "wp"
    refine ⟨_, f_ixR e rfl, ?_⟩
    walk_at "wp"
    refine ⟨_, _, _, _, rfl, rfl, e, rfl, ?_⟩
    walk_at "wp"
    exact ⟨⟨_, rfl, Int.emod_nonneg _ (by omega), Int.emod_lt_of_pos _ hm⟩, h.set _ _ _⟩
  · walk_at "wp"
    refine ⟨_, f_ixR e rfl, ?_⟩
    walk_at "wp"
    refine ⟨_, _, _, _, rfl, rfl, e, rfl, ?_⟩
    have e2 : (S.set 0 (.lst ([Vl.int a, .int b, .int c].set 2 (.int (c + 1)))))[0]? = some (.lst [.int a, .int b, .int (c + 1)]) := get_set h.lt
    walk_at "wp"
    refine ⟨_, f_ixR e2 rfl, ?_⟩
    walk_at "wp"
    refine ⟨_, f_ixR e2 rfl, ?_⟩
    walk_at "wp"
    exact ⟨⟨_, rfl, Int.emod_nonneg _ (by omega), Int.emod_lt_of_pos _ hm⟩, h.set _ _ _⟩
theorem pick_ok {S : Sto} {xs : List Vl} (h : Wl S) (h0 : xs ≠ []) (h1 : xs.length < 1000) : Ret (m__law_pick [.ref 0, .lst xs] S) fun v S1 => v ∈ xs ∧ Wl S1 := by
  have hl : 0 < xs.length := List.length_pos_iff.mpr h0
  unfold m__law_pick b__law_pick
  refine w_run ?_
  walk_at "wp"
  refine (draw_ok h (by omega) (by omega)).mono fun v S1 ⟨⟨i, hv, h0, h1⟩, hW⟩ => ?_
  subst hv
  obtain ⟨v, hv, hm⟩ := atI_mem h0 h1
  exact ⟨v, f_ixL hv, hm, hW⟩
end G11

set_option Elab.async false
set_option linter.all false
set_option maxRecDepth 100000
set_option autoImplicit false
set_option maxHeartbeats 1000000
namespace G11
open PySem PySem.Spec L2 Dm Md
local macro_rules | `(tactic| walk_at "wp") => `(tactic| (repeat (first | ((with_reducible apply w_var); exact rfl) | with_reducible refine w_c ?_ | with_reducible refine w_bin ?_ | with_reducible refine w_cons ?_ | with_reducible refine w_nil ?_ | with_reducible refine w_lst ?_ | with_reducible refine w_call ?_ | with_reducible refine w_assoc ?_ | with_reducible refine w_qnil ?_ | with_reducible refine w_qset ?_ | with_reducible refine w_qret ?_ | with_reducible refine w_nilS ?_ | with_reducible refine w_ret ?_ | with_reducible refine w_set ?_ | with_reducible refine ⟨_, f_add, ?_⟩ | with_reducible refine ⟨_, f_sub, ?_⟩ | with_reducible refine ⟨_, _, rfl, rfl, ?_⟩ | with_reducible refine ⟨_, _, _, rfl, rfl, ?_⟩ | with_reducible refine ⟨_, _, _, _, rfl, rfl, rfl, ?_⟩ | ((with_reducible refine ⟨_, f_mul ?_, ?_⟩); omega) | ((with_reducible refine ⟨_, f_pow ?_, ?_⟩); (first | omega | decide)) | ((with_reducible refine ⟨_, f_shl ?_, ?_⟩); (first | omega | decide)) | with_reducible refine ⟨_, rfl, ?_⟩ | with_reducible refine ret_ok.mpr ?_ | refine w_yes rfl ?_ | refine w_no rfl ?_ | ((with_reducible refine w_yes (decide_eq_true ?_) ?_); omega) | ((with_reducible refine w_no (decide_eq_false ?_) ?_); omega) | ((with_reducible refine w_nyes ?_ ?_); omega) | ((with_reducible refine w_nno ?_ ?_); omega))))
/- b__law_number -/
theorem number_ok {w : Nat} {S : Sto} (h : Wl S) (hw : w ≤ 6) : Ret (m__law_number [.ref 0, .int w] S) fun v S1 => (∃ z : Int, v = .int z) ∧ Wl S1 := by
  have h64 : (2 : Int) ^ w ≤ 64 := by
    have h1 : (2 : Int) ^ w ≤ 2 ^ 6 := Int.le_of_dvd (two_pow_pos 6) (pow_dv hw)
    have h2 : (2 : Int) ^ 6 = 64 := by decide
    omega
  have hM := two_pow_pos w
  unfold m__law_number b__law_number
  refine w_run ?_
  walk_at "wp"
  rw [shw]
  refine (draw_ok h (by omega) (by omega)).mono ?_
  rintro _ S ⟨⟨i, rfl, hi0, hi1⟩, hW⟩
  walk_at "wp"
  refine (draw_ok hW (by omega) (by omega)).mono ?_
  rintro _ S ⟨⟨j, rfl, hj0, hj1⟩, hW⟩
  walk_at "wp"
  refine (pick_ok (xs := [.int 0, .int 0, .int 0, .int 1, .int (3 ^ 50)]) hW (by simp) (by decide)).mono ?_
  rintro v S ⟨hv, hW⟩
  obtain ⟨z, rfl⟩ : ∃ z : Int, v = .int z := by
    simp only [List.mem_cons, List.not_mem_nil, or_false] at hv
    rcases hv with rfl | rfl | rfl | rfl | rfl <;> exact ⟨_, rfl⟩
  rw [shw]
  refine ⟨_, f_mul (.inl (by omega)), _, rfl, ⟨_, rfl⟩, hW⟩
end G11

set_option Elab.async false
set_option linter.all false
set_option maxRecDepth 100000
set_option autoImplicit false
set_option maxHeartbeats 1000000
namespace G11
open PySem PySem.Spec L2 Dm Md
local macro_rules | `(tactic| walk_at "wp") => `(tactic| (repeat (first | ((with_reducible apply w_var); exact rfl) | with_reducible refine w_c ?_ | with_reducible refine w_bin ?_ | with_reducible refine w_cB ?_ | with_reducible refine w_cons ?_ | with_reducible refine w_nil ?_ | with_reducible refine w_tup ?_ | with_reducible refine w_lst ?_ | with_reducible refine w_call ?_ | with_reducible refine w_seqI ?_ | with_reducible refine w_rng2 ?_ | with_reducible refine w_rng1 ?_ | ((with_reducible apply w_comp); exact rfl) | with_reducible refine w_assoc ?_ | with_reducible refine w_qnil ?_ | with_reducible refine w_qset ?_ | with_reducible refine w_qret ?_ | with_reducible refine w_qunp ?_ | with_reducible refine w_nilS ?_ | with_reducible refine w_ret ?_ | with_reducible refine w_set ?_ | with_reducible refine ⟨_, f_add, ?_⟩ | with_reducible refine ⟨_, f_tupL, ?_⟩ | with_reducible refine ⟨_, f_tupT, ?_⟩ | with_reducible refine ⟨_, f_listL, ?_⟩ | with_reducible refine ⟨_, f_listT, ?_⟩ | with_reducible refine ⟨_, seqQ, ?_⟩ | with_reducible refine ⟨_, tupQ, ?_⟩ | with_reducible refine ⟨_, _, rfl, seqQ, ?_⟩ | with_reducible refine ⟨_, _, rfl, rfl, ?_⟩ | with_reducible refine ⟨_, _, _, rfl, rfl, ?_⟩ | with_reducible refine ⟨_, _, _, _, rfl, rfl, rfl, ?_⟩ | with_reducible refine ⟨_, rfl, ?_⟩ | with_reducible refine ret_ok.mpr ?_ | refine w_yes rfl ?_ | refine w_no rfl ?_ | ((with_reducible refine w_yes (decide_eq_true ?_) ?_); omega) | ((with_reducible refine w_no (decide_eq_false ?_) ?_); omega) | ((with_reducible refine w_nyes ?_ ?_); omega) | ((with_reducible refine w_nno ?_ ?_); omega))))
/- b__law_rows b__law_small -/
theorem rows_draw {w n : Nat} {S : Sto} (h : Wl S) (hw : w ≤ 6) (hn : n ≤ 6) : Ret (m__law_rows [.ref 0, .int w, .int n, .int 4] S) fun v S1 => (∃ ts, v = rowsE false ts ∧ AllLen n ts ∧ ts.length ≤ 4) ∧ Wl S1 := by
  unfold m__law_rows b__law_rows
  refine w_run ?_
  walk_at "wp"
  refine (draw_ok h (by omega) (by omega)).mono ?_
  rintro _ S1 ⟨⟨i, rfl, hi0, hi1⟩, hW⟩
  walk_at "wp"
  refine ⟨by omega, ?_⟩
  refine (comp_typ (fun r : List Int => Vl.lst (r.map .int)) (fun _ r => r.length = n) Wl _ 0 _ hW fun k x S2 hx hW2 => ?_).mono ?_
  · refine ⟨_, rfl, ?_⟩
    walk_at "wp"
    refine ⟨by omega, ?_⟩
    rw [Int.toNat_natCast]
    refine (comp_typ Vl.int (fun _ _ => True) Wl _ 0 _ hW2 fun k x S3 hx hW3 => ?_).mono ?_
    · refine ⟨_, rfl, ?_⟩
      walk_at "wp"
      refine (number_ok hW3 hw).mono ?_
      rintro _ S4 ⟨⟨z, rfl⟩, hW4⟩
      exact ⟨⟨z, rfl, trivial⟩, hW4⟩
    · rintro _ S3 ⟨⟨zs, rfl, hl, _⟩, hW3⟩
      rw [rgI_length] at hl
      exact ⟨⟨zs, rfl, hl⟩, hW3⟩
  · rintro _ S2 ⟨⟨rs, rfl, hl, hp⟩, hW2⟩
    rw [rgI_length] at hl
    walk_at "wp"
    refine (comp_typ rowE (fun _ t => t.2.length = n) Wl _ 0 _ hW2 fun k x S3 hx hW3 => ?_).mono ?_
    · obtain ⟨r, hr, rfl⟩ := map_at hx
      have hrl : r.length = n := by have := hp k r hr; exact this
      refine ⟨_, rfl, ?_⟩
      walk_at "wp"
      refine (pick_ok (xs := [.lst (r.map .int), .tup (r.map .int)]) hW3 (by simp) (by simp)).mono ?_
      rintro v S4 ⟨hv, hW4⟩
      simp only [List.mem_cons, List.not_mem_nil, or_false] at hv
      rcases hv with rfl | rfl
      · exact ⟨⟨(false, r), rfl, hrl⟩, hW4⟩
      · exact ⟨⟨(true, r), rfl, hrl⟩, hW4⟩
    · rintro _ S3 ⟨⟨ts, rfl, htl, hts⟩, hW3⟩
      rw [List.length_map] at htl
      refine ⟨⟨ts, rfl, fun t ht => ?_, by omega⟩, hW3⟩
      obtain ⟨k, hk⟩ := List.getElem?_of_mem ht
      exact hts k t hk
def szs : List (Nat × Nat) := [(1, 3), (1, 6), (2, 2), (2, 3), (3, 2), (6, 1), (5, 1), (3, 1), (2, 1), (1, 1), (1, 0)]
theorem small_ok {S : Sto} (h : Wl S) : Ret (m__law_small [.ref 0] S) fun v S1 => (∃ (w n : Nat) (ts : List (Bool × List Int)), v = .tup [.int w, .int n, rowsE false ts] ∧ 1 ≤ w ∧ w ≤ 6 ∧ n ≤ 6 ∧ ((2 : Int) ^ w) ^ n ≤ 64 ∧ AllLen n ts ∧ ts.length ≤ 4) ∧ Wl S1 := by
  unfold m__law_small b__law_small
  refine w_run ?_
  walk_at "wp"
  refine (show Ret (m__law_pick [.ref 0, .lst (szs.map fun p => .tup [.int (p.1 : Nat), .int (p.2 : Nat)])] S) _ from (pick_ok h (by simp [szs]) (by simp [szs])).mono ?_)
  rintro v S1 ⟨hv, hW⟩
  obtain ⟨⟨w, n⟩, hm, rfl⟩ := List.mem_map.mp hv
  have hb : 1 ≤ w ∧ w ≤ 6 ∧ n ≤ 6 ∧ ((2 : Int) ^ w) ^ n ≤ 64 := by
    simp only [szs, List.mem_cons, List.not_mem_nil, or_false, Prod.mk.injEq] at hm
    rcases hm with ⟨rfl, rfl⟩ | ⟨rfl, rfl⟩ | ⟨rfl, rfl⟩ | ⟨rfl, rfl⟩ | ⟨rfl, rfl⟩ | ⟨rfl, rfl⟩ | ⟨rfl, rfl⟩ | ⟨rfl, rfl⟩ | ⟨rfl, rfl⟩ | ⟨rfl, rfl⟩ | ⟨rfl, rfl⟩ <;> decide
  refine ⟨_, rfl, rfl, ?_⟩
  walk_at "wp"
  refine (rows_draw hW hb.2.1 hb.2.2.1).mono ?_
  rintro _ S2 ⟨⟨ts, rfl, h1, h2⟩, hW2⟩
  walk_at "wp"
  exact ⟨⟨w, n, ts, rfl, hb.1, hb.2.1, hb.2.2.1, hb.2.2.2, h1, h2⟩, hW2⟩
end G11

set_option Elab.async false
set_option linter.all false
set_option maxRecDepth 100000
set_option autoImplicit false
set_option maxHeartbeats 1000000
namespace G11
open PySem PySem.Spec L2 Dm Md
local macro_rules | `(tactic| walk_at "wp") => `(tactic| (repeat (first | ((with_reducible apply w_var); exact rfl) | ((with_reducible apply w_varO); exact rfl) | ((with_reducible apply w_varL); exact rfl) | with_reducible refine w_c ?_ | with_reducible refine w_bin ?_ | with_reducible refine w_un ?_ | with_reducible refine w_cB ?_ | with_reducible refine w_tv ?_ | with_reducible refine w_cons ?_ | with_reducible refine w_nil ?_ | with_reducible refine w_pop ?_ | with_reducible refine w_call ?_ | with_reducible refine w_orT ?_ | with_reducible refine w_notT ?_ | with_reducible refine w_isi ?_ | with_reducible refine w_sl ?_ | with_reducible refine w_oN ?_ | with_reducible refine w_oS ?_ | with_reducible refine w_seqI ?_ | with_reducible refine w_rng2 ?_ | with_reducible refine w_rng1 ?_ | ((with_reducible apply w_comp); exact rfl) | with_reducible refine w_assoc ?_ | with_reducible refine w_qnil ?_ | with_reducible refine w_qset ?_ | with_reducible refine w_qret ?_ | with_reducible refine w_qif ?_ | ((with_reducible apply w_qapp); exact rfl) | with_reducible refine w_qunp ?_ | with_reducible refine w_qfor ?_ | with_reducible refine w_for ?_ | with_reducible refine w_nilS ?_ | with_reducible refine w_ret ?_ | with_reducible refine w_ifS ?_ | with_reducible refine w_set ?_ | ((with_reducible apply w_app); exact rfl) | with_reducible refine ⟨_, f_add, ?_⟩ | with_reducible refine ⟨_, f_neg, ?_⟩ | with_reducible refine ⟨_, f_neI, ?_⟩ | with_reducible refine ⟨_, f_eqI, ?_⟩ | with_reducible refine ⟨_, f_tupL, ?_⟩ | with_reducible refine ⟨_, f_tupT, ?_⟩ | with_reducible refine ⟨_, f_listL, ?_⟩ | with_reducible refine ⟨_, f_listT, ?_⟩ | with_reducible refine ⟨_, tyQ, ?_⟩ | with_reducible refine ⟨_, seqQ, ?_⟩ | with_reducible refine ⟨_, tupQ, ?_⟩ | with_reducible refine ⟨_, _, rfl, seqQ, ?_⟩ | with_reducible refine ⟨_, _, rfl, rfl, ?_⟩ | with_reducible refine ⟨_, _, _, rfl, rfl, ?_⟩ | with_reducible refine ⟨_, _, _, _, rfl, rfl, rfl, ?_⟩ | with_reducible refine ⟨_, f_slL, ?_⟩ | with_reducible refine ⟨_, f_slT, ?_⟩ | with_reducible refine ⟨_, rfl, ?_⟩ | with_reducible refine ret_ok.mpr ?_ | refine w_yes rfl ?_ | refine w_no rfl ?_ | ((with_reducible refine w_yes (decide_eq_true ?_) ?_); omega) | ((with_reducible refine w_no (decide_eq_false ?_) ?_); omega) | ((with_reducible refine w_nyes ?_ ?_); omega) | ((with_reducible refine w_nno ?_ ?_); omega))))
def atBody : SM := (seqS (setS 7 (compM (keysI (varM 5)) [10] (tfN 10) (notT (tv (cB anyIF (consA (slM (varM 10) oN (oS (varM 6))) nilA)))) (varM 10))) (seqS (setS 8 (popZ (callM m__law_elements (consA (varM 1) (consA (varM 2) (consA (compM (seqI (varL 4)) [12] (tfN 12) (notT (tv (cB anyIF (consA (slM (varM 12) oN (oS (varM 6))) nilA)))) (varM 12)) nilA)))))) (ifS (tv (bin2 neF (cB sortTF (consA (varM 8) nilA)) (cB sortLF (consA (varM 7) nilA)))) (retS (cM (.bl false))) nilS)))
theorem keyT_kIs (nss : List (List Int)) : (nss.map kI).map keyT = nss.map tupI := by
  rw [List.map_map]
  exact List.map_congr_left fun x _ => keyT_int x
/-- a row is 0 ahead of a column -/
def zr (at_ : Nat) (x : List Int) : Bool := !((x.take at_).any fun x => x != 0)
theorem zr_iff {at_ : Nat} {x : List Int} : zr at_ x = true ↔ Zb at_ x := by
  unfold zr
  rw [Bool.not_eq_true', List.any_eq_false]
  constructor
  · intro h k hk
    show x.getD k 0 = 0
    rw [List.getD_eq_getElem?_getD]
    by_cases hl : k < x.length
    · have hm : x[k] ∈ x.take at_ := by
        rw [List.mem_take_iff_getElem]
        exact ⟨k, by omega, rfl⟩
      have := h _ hm
      rw [List.getElem?_eq_getElem hl]
      simpa using this
    · rw [List.getElem?_eq_none (by omega)]
      rfl
  · intro h y hy
    obtain ⟨k, hk, rfl⟩ := List.mem_take_iff_getElem.mp hy
    have h1 := h k (by omega)
    have e : Md.ent x k = x[k] := by
      show x.getD k 0 = _
      rw [List.getD_eq_getElem?_getD, List.getElem?_eq_getElem (by omega)]
      rfl
    rw [e] at h1
    rw [h1]
    simp
theorem rowsT (R : List (List Int)) : Vl.lst (R.map tupI) = rowsE false (R.map fun r => (true, r)) := by
  show _ = Vl.lst ((R.map fun r => (true, r)).map rowE)
  rw [List.map_map]
  rfl
theorem lenT {n : Nat} {R : List (List Int)} (h : ∀ r ∈ R, r.length = n) : AllLen n (R.map fun r => (true, r)) := fun t ht => by
  obtain ⟨r, hr, rfl⟩ := List.mem_map.mp ht
  exact h r hr
theorem modT {w n : Nat} {R : List (List Int)} {v : Nat → Int} : Mod w n (R.map fun r => (true, r)) v ↔ Sp (2 ^ w) n (fun x => x ∈ R) v := by
  show Sp (2 ^ w) n (fun x => x ∈ (R.map fun r => ((true, r) : Bool × List Int)).map (·.2)) v ↔ _
  rw [List.map_map]
  have e : R.map ((fun t : Bool × List Int => t.2) ∘ fun r => ((true, r) : Bool × List Int)) = R := List.map_id R
  rw [e]
section
variable {w n : Nat} {ts : List (Bool × List Int)}
theorem ech_len (hw : w ≤ 64) (hn : n < 64) (h : AllLen n ts) : ∀ r ∈ echR w n ts, Rw (2 ^ w) n r := fun r hr => by
  obtain ⟨i, hi⟩ := List.getElem?_of_mem hr
  obtain ⟨_, _, _, _, h3, _⟩ := (ech_stp hw hn h).row i r hi
  exact h3
/-- the echelon generates the same -/
theorem ech_mod (hw : w ≤ 64) (hn : n < 64) (h : AllLen n ts) (v : Nat → Int) : Mod w n ((echR w n ts).map fun r => (true, r)) v ↔ Mod w n ts v := by
  obtain ⟨I, S1⟩ := stP_ok hw hn h
  rw [modT, ← S1 v, ← tg_iff I cs_cols (Nat.zero_le n)]
  exact ⟨fun q => q.sub fun x hx => ⟨hx, fun k hk => by omega⟩, fun q => q.sub fun x hx => hx.1⟩
/- b__law_right -/
theorem at_turn {at_ : Nat} {nss : List (List Int)} {vs : Tv} {s7 s8 : Sv} {rv : Vl} {S : Sto} (h0 : 1 ≤ w) (hw : w ≤ 6) (hn : n ≤ 6) (hb : ((2 : Int) ^ w) ^ n ≤ 64) (h : AllLen n ts) (hE : El w n nss) (hi : ∀ x, Rw (2 ^ w) n x → (x ∈ nss ↔ Mod w n ts (Md.ent x))) (ha : at_ ≤ n) (hS : Ss S) :
    Ret (atBody [.v (.ref 0), .v (.int w), .v (.int n), .v rv, .ow (.lst ((echR w n ts).map tupI)), .v (fV nss vs), .v (.int at_), s7, s8, .un, .un, .un, .un] S) fun fl S1 => S1 = S ∧ ∃ s7 s8, svOk s7 = true ∧ svOk s8 = true ∧ fl = .nx [.v (.ref 0), .v (.int w), .v (.int n), .v rv, .ow (.lst ((echR w n ts).map tupI)), .v (fV nss vs), .v (.int at_), s7, s8, .un, .un, .un, .un] := by
  have hR := ech_len (w := w) (by omega) (show n < 64 by omega) h
  obtain ⟨I, Sm⟩ := stP_ok (w := w) (by omega) (show n < 64 by omega) h
  unfold atBody
  walk_at "wp"
  refine w_keysI ?_
  walk_at "wp"
  refine ⟨_, _, rfl, ?_⟩
  rw [keyT_kIs]
  refine comp_flt tupI tupI (zr at_) nss (fun x hx => ⟨_, rfl, ?_, fun z => ?_⟩) ?_
  · walk_at "wp"
    rw [cut_to (by rw [(hE.rw_ x hx).len]; exact ha)]
    exact ⟨_, f_anyI, _, rfl, rfl, rfl⟩
  · walk_at "wp"
    exact ⟨rfl, rfl⟩
  walk_at "wp"
  refine w_popZt ?_
  walk_at "wp"
  refine comp_flt tupI tupI (zr at_) (echR w n ts) (fun x hx => ⟨_, rfl, ?_, fun z => ?_⟩) ?_
  · walk_at "wp"
    rw [cut_to (by rw [(hR x hx).len]; exact ha)]
    exact ⟨_, f_anyI, _, rfl, rfl, rfl⟩
  · walk_at "wp"
    exact ⟨rfl, rfl⟩
  walk_at "wp"
  rw [rowsT ((echR w n ts).filter (zr at_))]
  refine (el_P hw hn hb (lenT (fun r hr => (hR r (List.mem_filter.mp hr).1).len)) hS).mono ?_
  rintro _ S1 ⟨hal, nss2, vs2, rfl, hg, ht, hE2, hi2⟩
  refine ⟨hal, _, _, _, rfl, Nat.le_refl _, hg, ?_⟩
  rw [ht]
  have hEd : El w n (nss.filter (zr at_)) := ⟨hE.nd.filter _, fun x hx => hE.rw_ x (List.mem_filter.mp hx).1⟩
  have key : ∀ x, Rw (2 ^ w) n x → (x ∈ nss2 ↔ x ∈ nss.filter (zr at_)) := fun x hx => by
    rw [hi2 x hx, modT, List.mem_filter, hi x hx, zr_iff, ← Sm, ← due_iff I cs_cols ha hx]
    refine ⟨fun q => q.sub fun y hy => ?_, fun q => q.sub fun y hy => ?_⟩
    · exact ⟨(List.mem_filter.mp hy).1, zr_iff.mp (List.mem_filter.mp hy).2⟩
    · exact List.mem_filter.mpr ⟨hy.1, zr_iff.mpr hy.2⟩
  have es : isortB cod nss2 = isortB cod (nss.filter (zr at_)) := sort_same (by omega) hE2 hEd fun x => by
    constructor
    · intro hx
      exact (key x (hE2.rw_ x hx)).mp hx
    · intro hx
      exact (key x (hEd.rw_ x hx)).mpr hx
  walk_at "wp"
  refine ⟨_, f_sortT (n := n) (by omega) hE2, ?_⟩
  walk_at "wp"
  refine ⟨_, f_sortL (n := n) (by omega) hEd, ?_⟩
  rw [es]
  refine ⟨_, neR_self, ?_⟩
  walk_at "wp"
  exact ⟨rfl, _, _, rfl, rfl, rfl⟩
end
end G11

set_option Elab.async false
set_option linter.all false
set_option maxRecDepth 100000
set_option autoImplicit false
set_option maxHeartbeats 1000000
namespace G11
open PySem PySem.Spec L2 Dm Md
local macro_rules | `(tactic| walk_at "wp") => `(tactic| (repeat (first | ((with_reducible apply w_var); exact rfl) | ((with_reducible apply w_varO); exact rfl) | ((with_reducible apply w_varL); exact rfl) | with_reducible refine w_c ?_ | with_reducible refine w_bin ?_ | with_reducible refine w_un ?_ | with_reducible refine w_cB ?_ | with_reducible refine w_tv ?_ | with_reducible refine w_cons ?_ | with_reducible refine w_nil ?_ | with_reducible refine w_pop ?_ | with_reducible refine w_lst ?_ | with_reducible refine w_call ?_ | with_reducible refine w_orT ?_ | with_reducible refine w_notT ?_ | with_reducible refine w_isi ?_ | with_reducible refine w_sl ?_ | with_reducible refine w_oN ?_ | with_reducible refine w_oS ?_ | with_reducible refine w_seqI ?_ | with_reducible refine w_rng2 ?_ | with_reducible refine w_rng1 ?_ | with_reducible refine w_enI ?_ | ((with_reducible apply w_comp); exact rfl) | with_reducible refine w_assoc ?_ | with_reducible refine w_qnil ?_ | with_reducible refine w_qset ?_ | with_reducible refine w_qret ?_ | with_reducible refine w_qif ?_ | ((with_reducible apply w_qapp); exact rfl) | with_reducible refine w_qunp ?_ | with_reducible refine w_qfor ?_ | with_reducible refine w_for ?_ | with_reducible refine w_nilS ?_ | with_reducible refine w_ret ?_ | with_reducible refine w_ifS ?_ | with_reducible refine w_set ?_ | ((with_reducible apply w_app); exact rfl) | with_reducible refine ⟨_, f_add, ?_⟩ | with_reducible refine ⟨_, f_neg, ?_⟩ | with_reducible refine ⟨_, f_cmp, ?_⟩ | with_reducible refine ⟨_, f_neI, ?_⟩ | with_reducible refine ⟨_, f_eqI, ?_⟩ | with_reducible refine ⟨_, f_int, ?_⟩ | with_reducible refine ⟨_, f_intB, ?_⟩ | with_reducible refine ⟨_, f_tupL, ?_⟩ | with_reducible refine ⟨_, f_tupT, ?_⟩ | with_reducible refine ⟨_, f_listL, ?_⟩ | with_reducible refine ⟨_, f_listT, ?_⟩ | with_reducible refine ⟨_, tyQ, ?_⟩ | with_reducible refine ⟨_, seqQ, ?_⟩ | with_reducible refine ⟨_, tupQ, ?_⟩ | with_reducible refine ⟨_, _, rfl, seqQ, ?_⟩ | with_reducible refine ⟨_, _, rfl, rfl, ?_⟩ | with_reducible refine ⟨_, _, _, rfl, rfl, ?_⟩ | with_reducible refine ⟨_, _, _, _, rfl, rfl, rfl, ?_⟩ | with_reducible refine ⟨_, f_slL, ?_⟩ | with_reducible refine ⟨_, f_slT, ?_⟩ | ((with_reducible refine ⟨_, f_mod ?_, ?_⟩); (first | assumption | omega | decide)) | ((with_reducible refine ⟨_, f_mul ?_, ?_⟩); omega) | ((with_reducible refine ⟨_, f_pow ?_, ?_⟩); (first | omega | decide)) | with_reducible refine w_retW ?_ | with_reducible refine ⟨_, rfl, ?_⟩ | with_reducible refine ret_ok.mpr ?_ | refine w_yes rfl ?_ | refine w_no rfl ?_ | ((with_reducible refine w_yes (decide_eq_true ?_) ?_); omega) | ((with_reducible refine w_no (decide_eq_false ?_) ?_); omega) | ((with_reducible refine w_nyes ?_ ?_); omega) | ((with_reducible refine w_nno ?_ ?_); omega))))
theorem cut_last {T : Type} (l : List T) (x : T) : cutL (l ++ [x]) none (some (-1)) = l := by
  unfold cutL
  rw [HT.sIx_none, List.drop_zero, Nat.sub_zero]
  have e : HT.sIx (l ++ [x]).length (l ++ [x]).length (some (-1)) = l.length := by
    unfold HT.sIx
    simp
    omega
  rw [e, List.take_left]
theorem fzV_ref {S S1 : Sto} {k : Nat} {y : Vl} (hk : S.length ≤ k) (hg : S1[k]? = some y) : fzV S.length (S1.drop S.length) (.ref k) = some y := by
  show fz1 S.length (S1.drop S.length) (.ref k) = some y
  unfold fz1
  dsimp only
  rw [if_neg (by omega), List.getElem?_drop, show S.length + (k - S.length) = k from by omega]
  exact hg
theorem env_ok {a b c d f : Vl} {l : List Vl} {s6 s7 s8 s9 : Sv} (h6 : svOk s6 = true) (h7 : svOk s7 = true) (h8 : svOk s8 = true) (h9 : svOk s9 = true) : envOk [.v a, .v b, .v c, .v d, .ow (.lst l), .v f, s6, s7, s8, s9, .un, .un, .un] = true := by
  unfold envOk
  simp only [List.all_cons, List.all_nil, h6, h7, h8, h9]
  rfl
theorem othT (ps : List (List Int)) (ts : List (Bool × List Int)) : Vl.lst (ps.map tupI ++ (ts.map rowE).reverse) = rowsE false ((ps.map fun r => (true, r)) ++ ts.reverse) := by
  show _ = Vl.lst (((ps.map fun r => (true, r)) ++ ts.reverse).map rowE)
  rw [List.map_append, List.map_map, List.map_reverse]
  rfl
section
variable {w n : Nat} {ts : List (Bool × List Int)}
/-- two lots of rows, the first of them within what the second generates, and the second among the first -/
theorem mod_more {ps : List (List Int)} (hp : ∀ y ∈ ps, Mod w n ts (Md.ent y)) (v : Nat → Int) : Mod w n ((ps.map fun r => (true, r)) ++ ts.reverse) v ↔ Mod w n ts v := by
  have hm : ∀ x, x ∈ ((ps.map fun r => ((true, r) : Bool × List Int)) ++ ts.reverse).map (·.2) ↔ x ∈ ps ∨ x ∈ ts.map (·.2) := fun x => by
    rw [List.map_append, List.map_map, List.map_reverse, List.mem_append, List.mem_reverse]
    have e : ps.map ((fun t : Bool × List Int => t.2) ∘ fun r => ((true, r) : Bool × List Int)) = ps := List.map_id ps
    rw [e]
  constructor
  · intro q
    refine q.mono fun x hx => ?_
    rcases (hm x).mp hx with hx | hx
    · exact hp x hx
    · exact .gen hx
  · intro q
    exact q.sub fun x hx => (hm x).mpr (.inr hx)
theorem count_T {R : List (List Int)} {S : Sto} (h0 : 1 ≤ w) (hw : w ≤ 6) (hn : n < 64) (h : ∀ r ∈ R, r.length = n) (hS : Ss S) : Ret (m_count [.int w, .int n, .lst (R.map tupI)] S) fun v S1 => v = .int (cntP (2 ^ w) (stP w n (R.map fun r => (true, r)))) ∧ S1 = S := by
  rw [rowsT]
  exact count_ok h0 hw hn (lenT h) hS
theorem ech_T {R : List (List Int)} {S : Sto} (h0 : 1 ≤ w) (hw : w ≤ 64) (hn : n < 64) (h : ∀ r ∈ R, r.length = n) (hS : Ss S) : Ret (m_echelon [.int w, .int n, .lst (R.map tupI)] S) fun x S1 => nlB x = true ∧ stOk S1 = true ∧ S1.all (rfB S.length) = true ∧ ∃ k, x = .ref k ∧ S.length ≤ k ∧ S1[k]? = some (.lst ((echR w n (R.map fun r => (true, r))).map tupI)) ∧ S1.take S.length = S := by
  rw [rowsT]
  exact ech_P h0 hw hn (lenT h) hS
/- b__law_right -/
theorem right_ok {S : Sto} (hW : Wl S) : Ret (m__law_right [.ref 0] S) fun v S1 => v = .bl true ∧ Wl S1 := by
  unfold m__law_right b__law_right
  refine w_run ?_
  walk_at "wp"
  refine (small_ok hW).mono ?_
  rintro _ S1 ⟨⟨w, n, ts, rfl, h0, hw, hn, hb, hts, hl⟩, hW1⟩
  refine ⟨_, rfl, rfl, ?_⟩
  refine w_qparOV (Nat.le_of_ble_eq_true rfl) ?_
  refine w_popN ?_
  walk_at "wp"
  refine (ech_P h0 (by omega) (by omega) hts hW1.ss).mono ?_
  rintro _ S2 ⟨_, _, hal, k, rfl, hk, hg, ht⟩
  refine ⟨hal, k, _, rfl, hk, hg, ?_⟩
  rw [ht]
  refine w_popZt ?_
  walk_at "wp"
  refine (el_P hw hn hb hts hW1.ss).mono ?_
  rintro _ S2 ⟨hal, nss, vs, rfl, hg, ht, hE, hi⟩
  refine ⟨hal, _, _, _, rfl, Nat.le_refl _, hg, ?_⟩
  rw [ht]
  walk_at "wp"
  refine w_callL rfl ?_
  walk_at "wp"
  refine (steps_ok (by omega) (ech_stp (by omega) (by omega) hts)).mono ?_
  rintro _ S2 ⟨rfl, rfl⟩
  refine ⟨rfl, hW1.ss.ok, ?_⟩
  walk_at "wp"
  refine ⟨by omega, ?_⟩
  have en : ((n : Int) + 1).toNat = n + 1 := by omega
  rw [en]
  refine (loop_ret (fun i env S' => S' = S2 ∧ ∃ s6 s7 s8, (svOk s6 = true ∧ svOk s7 = true ∧ svOk s8 = true) ∧ env = [.v (.ref 0), .v (.int w), .v (.int n), .v (rowsE false ts), .ow (.lst ((echR w n ts).map tupI)), .v (fV nss vs), s6, s7, s8, .un, .un, .un, .un]) _ 0 _ _ ⟨rfl, .un, .un, .un, ⟨rfl, rfl, rfl⟩, rfl⟩ ?_).mono ?_
  · rintro i x env S3 hx ⟨rfl, s6, s7, s8, h678, rfl⟩
    obtain ⟨hin, rfl⟩ := rgI_at hx
    refine ⟨_, rfl, ?_⟩
    refine (at_turn (s7 := s7) (s8 := s8) (rv := rowsE false ts) (vs := vs) (at_ := i) h0 hw hn hb hts hE hi (by omega) hW1.ss).mono ?_
    rintro _ S4 ⟨rfl, s7', s8', h7, h8, rfl⟩
    exact ⟨_, .inl rfl, rfl, _, _, _, ⟨rfl, h7, h8⟩, rfl⟩
  · rintro _ S3 ⟨e, rfl, rfl, s6, s7, s8, ⟨h6, h7, h8⟩, rfl⟩
    dsimp only
    have hR := ech_len (w := w) (by omega) (show n < 64 by omega) hts
    have hRl : ∀ r ∈ echR w n ts, r.length = n := fun r hr => (hR r hr).len
    have hc := count_len (ts0 := ts) hw (by omega) hts hE (fun v => Iff.rfl) hi
    have hc2 := count_len (ts0 := ts) hw (by omega) (lenT hRl) hE (ech_mod (by omega) (by omega) hts) hi
    have hRR : echR w n ((echR w n ts).map fun r => (true, r)) = echR w n ts := ech_same (by omega) (by omega) (lenT hRl) hts (ech_mod (by omega) (by omega) hts)
    have hp := isortB_perm (f := cod) nss
    have hM := two_pow_pos w
    have hzm : List.replicate n (0 : Int) ∈ nss := (hi _ ⟨List.length_replicate, fun k hk => by rw [ent_zero]; exact ⟨Int.le_refl _, hM⟩⟩).mpr (.zero fun k hk => by rw [ent_zero]; exact Int.dvd_zero _)
    have hne : (isortB cod nss).map tupI ≠ [] := by
      intro z
      rw [List.map_eq_nil_iff] at z
      have := hp.length_eq
      rw [z] at this
      have h2 := List.length_pos_of_mem hzm
      simp at this
      omega
    have hlen : ((isortB cod nss).map tupI).length < 1000 := by
      rw [List.length_map, hp.length_eq]
      have := hE.few hb
      omega
    walk_at "wp"
    refine (count_ok h0 hw (by omega) hts hW1.ss).mono ?_
    rintro _ S4 ⟨rfl, rfl⟩
    refine ⟨all_le (Nat.zero_le _) hW1.ss.rf, _, rfl, ?_⟩
    rw [List.take_length, hc]
    have hkl : (nss.map kI).length = nss.length := List.length_map _
    walk_at "wp"
    refine w_callL (env_ok h6 h7 h8 rfl) ?_
    walk_at "wp"
    refine (count_T h0 hw (by omega) hRl hW1.ss).mono ?_
    rintro _ S5 ⟨rfl, rfl⟩
    refine ⟨rfl, hW1.ss.ok, all_le (Nat.zero_le _) hW1.ss.rf, _, rfl, ?_⟩
    rw [List.take_length, hc2]
    walk_at "wp"
    refine ⟨by omega, ?_⟩
    refine (comp_typ tupI (fun _ y => y ∈ nss) Wl _ 0 _ hW1 fun i x S6 hx hW6 => ?_).mono ?_
    · refine ⟨_, rfl, ?_⟩
      walk_at "wp"
      refine ⟨_, f_sortT (n := n) (by omega) hE, ?_⟩
      walk_at "wp"
      refine (pick_ok hW6 hne hlen).mono ?_
      rintro v S7 ⟨hv, hW7⟩
      obtain ⟨y, hy, rfl⟩ := List.mem_map.mp hv
      exact ⟨⟨y, rfl, hp.mem_iff.mp hy⟩, hW7⟩
    · rintro _ S6 ⟨⟨ps, rfl, hpl, hps⟩, hW6⟩
      have hpl3 : ps.length ≤ 3 := by
        rw [hpl, rgI_length]
        decide
      have hpm : ∀ y ∈ ps, y ∈ nss := fun y hy => by
        obtain ⟨j, hj⟩ := List.getElem?_of_mem hy
        exact hps j y hj
      refine w_revN ?_
      walk_at "wp"
      refine ⟨_, if_pos (by rw [List.length_map, List.length_reverse, List.length_map]; omega), ?_⟩
      rw [othT]
      have hA2 : AllLen n ((ps.map fun r => (true, r)) ++ ts.reverse) := fun t ht => by
        rcases List.mem_append.mp ht with ht | ht
        · exact lenT (fun r hr => (hE.rw_ r (hpm r hr)).len) t ht
        · exact hts t (List.mem_reverse.mp ht)
      have e2 : echR w n ((ps.map fun r => (true, r)) ++ ts.reverse) = echR w n ts := ech_same (by omega) (by omega) hA2 hts (mod_more fun y hy => (hi y (hE.rw_ y (hpm y hy))).mp (hpm y hy))
      walk_at "wp"
      refine (ech_P (b := false) h0 (by omega) (by omega) hA2 hW6.ss).mono ?_
      rintro _ S7 ⟨_, _, hal, k, rfl, hk, hg, ht⟩
      refine ⟨hal, _, fzV_ref hk hg, ?_⟩
      rw [ht, e2]
      walk_at "wp"
      refine ⟨_, neR_self, ?_⟩
      walk_at "wp"
      refine w_callL (env_ok h6 h7 h8 rfl) ?_
      walk_at "wp"
      refine (ech_T h0 (by omega) (by omega) hRl hW6.ss).mono ?_
      rintro _ S7 ⟨hn1, hn2, hal, k, rfl, hk, hg, ht⟩
      refine ⟨hn1, hn2, hal, _, fzV_ref hk hg, ?_⟩
      rw [ht, hRR]
      walk_at "wp"
      refine ⟨_, neR_self, ?_⟩
      walk_at "wp"
      have hRlen : (echR w n ts).length < 16777216 := by
        have h1 : (echR w n ts).length = (cols (stP w n ts)).length := tidL_length _ _
        have h2 : (cols (stP w n ts)).length = (stP w n ts).length := by
          unfold cols
          rw [(isortB_perm _).length_eq, List.length_map]
        have h3 : (stP w n ts).length ≤ n := (stP_k (w := w) (n := n) (ts := ts)).len
        omega
      refine ⟨by rw [List.length_map]; exact hRlen, ?_⟩
      walk_at "wp"
      refine (ech_P (b := true) h0 (by omega) (by omega) hts hW6.ss).mono ?_
      rintro _ S7 ⟨_, _, hal, k, rfl, hk, hg, ht⟩
      refine ⟨hal, _, fzV_ref hk hg, ?_⟩
      rw [ht]
      walk_at "wp"
      rw [cut_last]
      exact ⟨_, eqR_self, rfl, hW6⟩
end
/- b_law b__law_source -/
theorem source_ok (z : Int) : Ret (m__law_source [.int z] []) fun v S1 => v = .ref 0 ∧ Wl S1 := by
  unfold m__law_source b__law_source
  refine w_run ?_
  walk_at "wp"
  exact ⟨rfl, ⟨_, _, _, rfl⟩, rfl, rfl⟩
theorem law_ok (ns : List Int) (hl : ns.length ≤ 63) : ∃ S, m_law [.scr ns] [] = .ok (.bl true) S := by
  have main : Ret (m_law [.scr ns] []) fun v _ => v = .bl true := by
    unfold m_law b_law
    refine w_run ?_
    walk_at "wp"
    refine ⟨_, if_pos (by simp; omega), ?_⟩
    walk_at "wp"
    have ec : cutL (ns.map Vl.int ++ [Vl.int 0]) none (some 6) = ((ns ++ [0]).take 6).map .int := by
      have e1 : ns.map Vl.int ++ [Vl.int 0] = (ns ++ [0]).map .int := by simp
      rw [e1]
      unfold cutL
      rw [HT.sIx_none, List.drop_zero, Nat.sub_zero, List.map_take]
      show List.take (min 6 ((ns ++ [0]).map Vl.int).length) _ = _
      rw [List.take_eq_take_min (i := 6), Nat.min_comm]
    rw [ec]
    refine (loop_ret (fun k env S => S = [] ∧ ∃ s1 s2 : Sv, env = [.v (.scr ns), s1, s2]) _ 0 _ _ ⟨rfl, _, _, rfl⟩ ?_).mono ?_
    · rintro j x env S hx ⟨rfl, s1, s2, rfl⟩
      obtain ⟨y, hy, rfl⟩ := enL_at hx
      obtain ⟨c, hc, rfl⟩ := map_at hy
      have hj := (List.getElem?_eq_some_iff.mp hc).1
      rw [List.length_take] at hj
      refine ⟨_, rfl, ?_⟩
      walk_at "wp"
      refine (source_ok _).mono ?_
      rintro _ S ⟨rfl, hW⟩
      walk_at "wp"
      refine (right_ok hW).mono ?_
      rintro _ S1 ⟨rfl, hW1⟩
      refine ⟨hW1.ss.rf, .bl true, rfl, true, rfl, (fun z => by cases z), fun _ => w_nilS ?_⟩
      exact ⟨_, .inl rfl, List.take_zero, _, _, rfl⟩
    · rintro _ S ⟨e, rfl, rfl, s1, s2, rfl⟩
      dsimp only
      walk_at "wp"
      rfl
  obtain ⟨v, S, e, rfl⟩ := main
  exact ⟨S, e⟩
end G11

theorem PySem.Challenge.cw_leastattr_k11_modules_in_steps_holds : PySem.Challenge.rw_leastattr_k11_modules_in_steps.Holds := by
  exact G11.holds G11.law_ok
