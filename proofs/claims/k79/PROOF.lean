import PyProof.Rows.All
import Wide.All
import OpenK.AllK
import Wide.FinOn
import KE.KStateDown
import HandS.ForMost
import HandS.Exc
import HandS.More
import HandS.WordsExc
import HandS.Defaults
import HandS.Lambda
import HandS.Head0
import HandS.Head1
import HandS.Head2
import HandS.HeadEnd
import HandS.HeadHook1
import HandS.HeadHook2
import HandS.HeadHook3
import HandS.HeadHook4
import HandS.HeadWalk
import HandS.Walk
import HandS.IsInst
import HandS.Deep
import HandS.Style
import HandS.WideBits
import KE.DataFind
import KE.DataMinMax
import KE.DataAny
import KE.DataEq
import KE.DataIsa
import KE.SortData
import PyProof.ReprReads
import HandS.TupAny
import HandS.TupMul
import HandS.Conv
import HandS.Zip
import HandS.RaiseMore
import HandS.Strs
import KE.GoesNew
import KE.GoesEnum
import KE.GoesMore
import KE.GoesZip
import HandS.ExcIs
import HandS.CallLocal
import HandS.TupSets
import HandS.SetFor
import HandS.Dict
import HandS.EndTab
import KE.KTupSum
import KE.DataCmp
import KE.KDictDisplayH
import PySem.Challenge.RW_lastgames_k79_whole_upsets_of_orders
set_option Elab.async false
set_option linter.all false
section
set_option maxRecDepth 100000
set_option maxHeartbeats 4000000
/-! Own library: values as pure data, their representation in the abstract heap. -/
namespace Ev
open PySem PySem.Spec PyProof.Rows L2

/-- a League, a def as a value, a cell of the store: told as dicts with a first key None (no dict of the program has one) -/
abbrev lea (t : Int) (g : PyData) : PyData := .dict [(.none, .int 1), (.int t, g)]
abbrev fnv (n : Nat) : PyData := .dict [(.none, .int 2), (.int (n : Int), .none)]
abbrev loc (i : Nat) : PyData := .dict [(.none, .int 3), (.int (i : Int), .none)]
/-- a bare address -/
abbrev rawv (a : Nat) : PyData := .dict [(.none, .int 5), (.int (a : Int), .none)]
/-- a dict whose keys are rows of ints -/
abbrev rdict (ds : List (PyData × PyData)) : PyData := .dict ((.none, .int 7) :: ds)
/-- the script, a locked list -/
abbrev frzl (ds : List PyData) : PyData := .dict [(.none, .int 4), (.list ds, .none)]

/-- what a row fixes: the written part, League's class, the defs that are handed about -/
structure Gd where
  K : PySem.W.Frag
  CL : Addr
  fa : Nat → Addr
  P : Program
  w : World

def isTbl : HO → Bool
  | .tbl _ => true
  | _ => false
/-- tables, and instances that are not made up yet -/
def skipO : HO → Bool
  | .tbl _ => true
  | .ins _ _ fs => fs.length != 2
  | _ => false
theorem skip_tbl {o : HO} (h : skipO o = false) : isTbl o = false := by cases o <;> first | rfl | exact h
/-- a dict of which the very object is known (its keys are rows of ints) -/
def dtO (a : Addr) (o : Obj) : HO := .ext fun h => h.get? a = some o
def isDt (φ : Heap → Prop) : Prop := ∃ (a : Addr) (o : Obj) (es : Array DictEntry) (ep : Nat), o.data = .dict es ep ∧ φ = fun h => h.get? a = some o
open Classical in
noncomputable def mutO : HO → Bool
  | .lst _ | .dK _ | .dT _ => true
  | .ext φ => decide (isDt φ)
  | _ => false
theorem mutO_dt {a : Addr} {o : Obj} {es : Array DictEntry} {ep : Nat} (h : o.data = .dict es ep) : mutO (dtO a o) = true := by
  unfold mutO dtO
  exact @decide_eq_true _ (Classical.propDecidable _) ⟨a, o, es, ep, h, rfl⟩
theorem mutO_code (c : Addr) (q : Str) : mutO (LamX.CodeO c q) = false := by
  unfold mutO LamX.CodeO
  refine @decide_eq_false _ (Classical.propDecidable _) ?_
  rintro ⟨a, o, es, ep, h, e⟩
  let ob : Obj := { cls := .none, data := .fields #[.none, .str q 0] }
  have g : ∀ b x, Heap.get? { objs := Array.replicate (c + 1) ob } b = some x → x = ob := by
    intro b x hb
    unfold Heap.get? at hb
    simp only [Array.getElem?_replicate] at hb
    by_cases hc : b < c + 1
    · rw [if_pos hc] at hb
      simpa [ob] using hb.symm
    · rw [if_neg hc] at hb
      cases hb
  have k := congrFun e { objs := Array.replicate (c + 1) ob }
  have hl : ∃ (oc : Obj) (vs : Array Value) (t : Tok), Heap.get? { objs := Array.replicate (c + 1) ob } c = some oc ∧ oc.data = .fields vs ∧ vs[1]? = some (.str q t) := by
    refine ⟨ob, #[.none, .str q 0], 0, ?_, rfl, rfl⟩
    unfold Heap.get?
    simp only [Array.getElem?_replicate]
    rw [if_pos (Nat.lt_succ_self c)]
  rw [k] at hl
  have := g a o hl
  rw [this] at h
  cases h

/-- a list that is tracked (then A holds of its address) -/
def LL (H : Hp) (A : Addr → Prop) (a : Addr) (vs : List V) : Prop := H a = some (.lst vs) ∧ A a
theorem LL.sq {K : PySem.W.Frag} {H : Hp} {A : Addr → Prop} {a : Addr} {vs : List V} (h : LL H A a vs) : SqL K H a vs := .inl (.inl h.1)
theorem LL.rd {H : Hp} {A : Addr → Prop} {a : Addr} {vs : List V} (h : LL H A a vs) : Rd H a (.lst vs) := .inl h.1

/-- the script: locked, tracked or written -/
def SqF (K : PySem.W.Frag) (H : Hp) (A : Addr → Prop) (a : Addr) (vs : List V) : Prop := (Rd H a (.lst vs) ∧ A a) ∨
  ∃ (o : Obj) (its : Array Value) (n : Nat), K.lookup a = some o ∧ o.cls = .type "list" ∧ o.dict = none ∧ o.data = .seq its n ∧ its.size ≤ sizeLine ∧ Vals vs its.toList
theorem SqF.sq {K : PySem.W.Frag} {H : Hp} {A : Addr → Prop} {a : Addr} {vs : List V} (h : SqF K H A a vs) : SqL K H a vs := h.imp (fun z => z.1) id
theorem SqF.of {K : PySem.W.Frag} {H : Hp} {a : Addr} {vs : List V} (h : SqL K H a vs) : SqF K H (fun _ => True) a vs := h.imp (fun z => ⟨z, trivial⟩) id

/-- a tuple whose object is known to be plain -/
def TuP (K : PySem.W.Frag) (H : Hp) (a : Addr) (vs : List V) : Prop := (∃ o, H a = some (.frz o (.tup vs)) ∧ o.dict = none) ∨
  ∃ (o : Obj) (its : Array Value) (n : Nat), K.lookup a = some o ∧ o.cls = .type "tuple" ∧ o.dict = none ∧ o.data = .seq its n ∧ its.size ≤ sizeLine ∧ Vals vs its.toList
theorem TuP.sq {K : PySem.W.Frag} {H : Hp} {a : Addr} {vs : List V} (h : TuP K H a vs) : SqT K H a vs := by
  rcases h with ⟨o, h, _⟩ | ⟨o, its, n, h1, h2, h3, h4, h5, h6⟩
  · exact .inl (.inr ⟨o, h⟩)
  · exact .inr ⟨o, its, n, h1, h2, h4, h5, h6⟩
theorem _root_.L2.Inv.tupM {X : Cx} {pins : List (Addr × Obj)} {σ : L2.St} {H : Hp} {s : Shared} {a : Addr} {vs : List V} (I : Inv X pins σ H s) (h : TuP X.K H a vs) :
    ∃ (its : List Value) (o : Obj) (n : Nat), Vals vs its ∧ s.heap.get? a = some o ∧ o.cls = .type "tuple" ∧ o.dict = none ∧ o.data = .seq its.toArray n ∧ vs.length ≤ sizeLine := by
  rcases h with ⟨o, h, hd⟩ | ⟨o, its, n, h1, h2, h3, h4, h5, h6⟩
  · obtain ⟨e, z, its, rv, o', e', hc, n, hdt⟩ := I.hok a _ h
    rw [e] at e'
    cases e'
    exact ⟨its, o, n, rv, e, hc, hd, hdt, z⟩
  · refine ⟨its.toList, o, n, h6, I.kIn a o h1, h2, h3, by simpa using h4, ?_⟩
    have e := h6.length
    simp only [Array.length_toList] at e
    omega
theorem _root_.L2.Inv.tnew {X : Cx} {pins : List (Addr × Obj)} {σ : L2.St} {H : Hp} {s : Shared} {ys : List V} {its : List Value} {t' : Nat} (I : Inv X pins σ H s) (rv : Vals ys its) (hz : ys.length ≤ sizeLine) :
    Inv X pins σ (upd H s.heap.objs.size (.frz { cls := .type "tuple", data := .seq its.toArray } (.tup ys))) { s with heap := s.heap.push { cls := .type "tuple", data := .seq its.toArray }, toks := t' } :=
  I.laid (fun _ _ q => Heap.get?_push_of_some _ q) (Nat.le_refl _) ⟨Heap.get?_push_size _ rfl, hz, its, rv, IsTup.new _ _⟩

def keyD : Key → PyData
  | .inl i => .int i
  | .inr x => .str x

def rowK (k : List Int) : List Key := k.map .inl
/-- the object o at a is a dict with the keys and values ks (key, where its tuple stands, value) -/
structure DtObj (G : Gd) (a : Addr) (o : Obj) (ks : List (List Int × Addr × V)) : Prop where
  sm : (a == sysModules) = false
  ex : o.ExactDict
  es : ∃ (es : Array DictEntry) (ep : Nat) (xs : List (List Key × Addr × Value)), o.data = .dict es ep ∧ es.toList = xs.map (entryOfKey (tupleKind (mixKind G.P G.w))) ∧ (xs.map (·.1)).Nodup ∧
    Paired (fun (p : List Int × Addr × V) (q : List Key × Addr × Value) => q.1 = rowK p.1 ∧ q.2.1 = p.2.1 ∧ RelV p.2.2 q.2.2) ks xs
theorem DtObj.mut {G : Gd} {a : Addr} {o : Obj} {ks : List (List Int × Addr × V)} (d : DtObj G a o ks) : mutO (dtO a o) = true := by
  obtain ⟨es, ep, xs, h, _⟩ := d.es
  exact mutO_dt h
mutual
inductive Rep (G : Gd) (L : List Addr) (H : Hp) (A : Addr → Prop) : PyData → V → Prop
  | non : Rep G L H A .none .non
  | bl (b : Bool) : Rep G L H A (.bool b) (.bl b)
  | int (i : Int) : Rep G L H A (.int i) (.int i)
  | str (x : Str) : Rep G L H A (.str x) (.str x)
  | tup {a : Addr} {vs : List V} {ds : List PyData} : TuP G.K H a vs → vs.length ≤ sizeLine → Reps G L H A ds vs → Rep G L H A (.tuple ds) (.ref a)
  | lst {a : Addr} {vs : List V} {ds : List PyData} : LL H A a vs → vs.length ≤ sizeLine → Reps G L H A ds vs → Rep G L H A (.list ds) (.ref a)
  | lea {a dx : Addr} {t : Int} {g : V} {d : PyData} : H a = some (.ins G.CL dx [("teams", .int t), ("games", g)]) → Rep G L H A d g → Rep G L H A (lea t d) (.ref a)
  | fn (n : Nat) : Rep G L H A (fnv n) (.ref (G.fa n))
  | loc {i : Nat} {a : Addr} : L[i]? = some a → Rep G L H A (loc i) (.ref a)
  | frz {a : Addr} {vs : List V} {ds : List PyData} : SqF G.K H A a vs → vs.length ≤ sizeLine → Reps G L H A ds vs → Rep G L H A (frzl ds) (.ref a)
  | raw (a : Nat) : Rep G L H A (rawv a) (.ref a)
  | dic {a : Addr} {kvs : List (Key × V)} {ds : List (PyData × PyData)} : H a = some (.dK kvs) → A a → kvs.length ≤ sizeLine → RepK G L H A ds kvs → Rep G L H A (.dict ds) (.ref a)
  | dit {a : Addr} {o : Obj} {ks : List (List Int × Addr × V)} {ds : List (PyData × PyData)} : H a = some (dtO a o) → A a → ks.length ≤ sizeLine → DtObj G a o ks → RepT G L H A ds ks → Rep G L H A (rdict ds) (.ref a)
inductive Reps (G : Gd) (L : List Addr) (H : Hp) (A : Addr → Prop) : List PyData → List V → Prop
  | nil : Reps G L H A [] []
  | cons {d : PyData} {v : V} {ds : List PyData} {vs : List V} : Rep G L H A d v → Reps G L H A ds vs → Reps G L H A (d :: ds) (v :: vs)
inductive RepK (G : Gd) (L : List Addr) (H : Hp) (A : Addr → Prop) : List (PyData × PyData) → List (Key × V) → Prop
  | nil : RepK G L H A [] []
  | cons {k : Key} {d : PyData} {v : V} {ds : List (PyData × PyData)} {vs : List (Key × V)} : Rep G L H A d v → RepK G L H A ds vs → RepK G L H A ((keyD k, d) :: ds) ((k, v) :: vs)
inductive RepT (G : Gd) (L : List Addr) (H : Hp) (A : Addr → Prop) : List (PyData × PyData) → List (List Int × Addr × V) → Prop
  | nil : RepT G L H A [] []
  | cons {k : List Int} {b : Addr} {d : PyData} {v : V} {ds : List (PyData × PyData)} {vs : List (List Int × Addr × V)} : TuP G.K H b (k.map V.int) → k.length ≤ sizeLine → Rep G L H A d v → RepT G L H A ds vs → RepT G L H A ((.tuple (k.map .int), d) :: ds) ((k, b, v) :: vs)
end

/-- what a change of the heap keeps -/
def Kp (A : Addr → Prop) (H H' : Hp) : Prop := ∀ b o, H b = some o → (mutO o = true → A b) → skipO o = false → H' b = some o

section
variable {G : Gd} {L : List Addr} {H H' : Hp} {A A' : Addr → Prop}
theorem TuP.kp {K : PySem.W.Frag} {a : Addr} {vs : List V} (k : Kp A H H') (h : TuP K H a vs) : TuP K H' a vs := by
  rcases h with ⟨o, h, z⟩ | h
  · exact .inl ⟨o, k _ _ h (fun z => nomatch z) rfl, z⟩
  · exact .inr h
theorem LL.keep {a : Addr} {vs : List V} (k : Kp A H H') (h : LL H A a vs) : LL H' A a vs := ⟨k _ _ h.1 (fun _ => h.2) rfl, h.2⟩
theorem LL.imp {a : Addr} {vs : List V} (k : ∀ b, A b → H b ≠ none → A' b) (h : LL H A a vs) : LL H A' a vs :=
  ⟨h.1, k _ h.2 (by rw [h.1]; exact fun q => nomatch q)⟩
theorem _root_.L2.Rd.ne {H : Hp} {a : Addr} {u : HO} (h : Rd H a u) : H a ≠ none := by
  rcases h with h | ⟨o, h⟩ <;> rw [h] <;> exact fun q => nomatch q
theorem SqF.keep {K : PySem.W.Frag} {a : Addr} {vs : List V} (k : Kp A H H') (h : SqF K H A a vs) : SqF K H' A a vs := by
  rcases h with ⟨h | ⟨o, h⟩, z⟩ | h
  · exact .inl ⟨.inl (k _ _ h (fun _ => z) rfl), z⟩
  · exact .inl ⟨.inr ⟨o, k _ _ h (fun z => nomatch z) rfl⟩, z⟩
  · exact .inr h
theorem SqF.imp {K : PySem.W.Frag} {a : Addr} {vs : List V} (k : ∀ b, A b → H b ≠ none → A' b) (h : SqF K H A a vs) : SqF K H A' a vs := by
  rcases h with ⟨h, z⟩ | h
  · exact .inl ⟨h, k _ z h.ne⟩
  · exact .inr h
mutual
theorem Rep.keep (k : Kp A H H') : ∀ {d : PyData} {v : V}, Rep G L H A d v → Rep G L H' A d v
  | _, _, .non => .non
  | _, _, .bl b => .bl b
  | _, _, .int i => .int i
  | _, _, .str x => .str x
  | _, _, .tup h n r => .tup (TuP.kp k h) n (Reps.keep k r)
  | _, _, .lst h n r => .lst (h.keep k) n (Reps.keep k r)
  | _, _, .lea h r => .lea (k _ _ h (fun z => nomatch z) rfl) (Rep.keep k r)
  | _, _, .fn n => .fn n
  | _, _, .loc h => .loc h
  | _, _, .raw a => .raw a
  | _, _, .frz h n r => .frz (h.keep k) n (Reps.keep k r)
  | _, _, .dic h z n r => .dic (k _ _ h (fun _ => z) rfl) z n (RepK.keep k r)
  | _, _, .dit h z n o r => .dit (k _ _ h (fun _ => z) rfl) z n o (RepT.keep k r)
theorem Reps.keep (k : Kp A H H') : ∀ {ds : List PyData} {vs : List V}, Reps G L H A ds vs → Reps G L H' A ds vs
  | _, _, .nil => .nil
  | _, _, .cons h r => .cons (Rep.keep k h) (Reps.keep k r)
theorem RepK.keep (k : Kp A H H') : ∀ {ds : List (PyData × PyData)} {vs : List (Key × V)}, RepK G L H A ds vs → RepK G L H' A ds vs
  | _, _, .nil => .nil
  | _, _, .cons h r => .cons (Rep.keep k h) (RepK.keep k r)
theorem RepT.keep (k : Kp A H H') : ∀ {ds : List (PyData × PyData)} {vs : List (List Int × Addr × V)}, RepT G L H A ds vs → RepT G L H' A ds vs
  | _, _, .nil => .nil
  | _, _, .cons t n h r => .cons (TuP.kp k t) n (Rep.keep k h) (RepT.keep k r)
end
mutual
theorem Rep.imp (k : ∀ b, A b → H b ≠ none → A' b) : ∀ {d : PyData} {v : V}, Rep G L H A d v → Rep G L H A' d v
  | _, _, .non => .non
  | _, _, .bl b => .bl b
  | _, _, .int i => .int i
  | _, _, .str x => .str x
  | _, _, .tup h n r => .tup h n (Reps.imp k r)
  | _, _, .lst h n r => .lst (h.imp k) n (Reps.imp k r)
  | _, _, .lea h r => .lea h (Rep.imp k r)
  | _, _, .fn n => .fn n
  | _, _, .loc h => .loc h
  | _, _, .raw a => .raw a
  | _, _, .frz h n r => .frz (h.imp k) n (Reps.imp k r)
  | _, _, .dic h z n r => .dic h (k _ z (by rw [h]; exact fun q => nomatch q)) n (RepK.imp k r)
  | _, _, .dit h z n o r => .dit h (k _ z (by rw [h]; exact fun q => nomatch q)) n o (RepT.imp k r)
theorem Reps.imp (k : ∀ b, A b → H b ≠ none → A' b) : ∀ {ds : List PyData} {vs : List V}, Reps G L H A ds vs → Reps G L H A' ds vs
  | _, _, .nil => .nil
  | _, _, .cons h r => .cons (Rep.imp k h) (Reps.imp k r)
theorem RepK.imp (k : ∀ b, A b → H b ≠ none → A' b) : ∀ {ds : List (PyData × PyData)} {vs : List (Key × V)}, RepK G L H A ds vs → RepK G L H A' ds vs
  | _, _, .nil => .nil
  | _, _, .cons h r => .cons (Rep.imp k h) (RepK.imp k r)
theorem RepT.imp (k : ∀ b, A b → H b ≠ none → A' b) : ∀ {ds : List (PyData × PyData)} {vs : List (List Int × Addr × V)}, RepT G L H A ds vs → RepT G L H A' ds vs
  | _, _, .nil => .nil
  | _, _, .cons t n h r => .cons t n (Rep.imp k h) (RepT.imp k r)
end
theorem Reps.length : ∀ {ds : List PyData} {vs : List V}, Reps G L H A ds vs → ds.length = vs.length
  | _, _, .nil => rfl
  | _, _, .cons _ r => congrArg (· + 1) r.length
theorem Reps.get : ∀ {ds : List PyData} {vs : List V} {i : Nat} {v : V}, Reps G L H A ds vs → vs[i]? = some v → ∃ d, ds[i]? = some d ∧ Rep G L H A d v
  | _, _, _, _, .nil, e => by simp at e
  | _, _, 0, _, .cons r _, e => by simp at e; subst e; exact ⟨_, rfl, r⟩
  | _, _, i + 1, _, .cons _ t, e => by
    obtain ⟨d, h1, h2⟩ := Reps.get (i := i) t (by simpa using e)
    exact ⟨d, by simpa using h1, h2⟩
theorem Reps.get' : ∀ {ds : List PyData} {vs : List V} {i : Nat} {d : PyData}, Reps G L H A ds vs → ds[i]? = some d → ∃ v, vs[i]? = some v ∧ Rep G L H A d v
  | _, _, _, _, .nil, e => by simp at e
  | _, _, 0, _, .cons r _, e => by simp at e; subst e; exact ⟨_, rfl, r⟩
  | _, _, i + 1, _, .cons _ t, e => by
    obtain ⟨d, h1, h2⟩ := Reps.get' (i := i) t (by simpa using e)
    exact ⟨d, by simpa using h1, h2⟩
theorem Reps.append : ∀ {ds es : List PyData} {vs ws : List V}, Reps G L H A ds vs → Reps G L H A es ws → Reps G L H A (ds ++ es) (vs ++ ws)
  | _, _, _, _, .nil, s => s
  | _, _, _, _, .cons r t, s => .cons r (Reps.append t s)
theorem Reps.take : ∀ {ds : List PyData} {vs : List V} (n : Nat), Reps G L H A ds vs → Reps G L H A (ds.take n) (vs.take n)
  | _, _, 0, _ => by simpa using .nil
  | _, _, _ + 1, .nil => .nil
  | _, _, n + 1, .cons r t => .cons r (Reps.take n t)
theorem Reps.drop : ∀ {ds : List PyData} {vs : List V} (n : Nat), Reps G L H A ds vs → Reps G L H A (ds.drop n) (vs.drop n)
  | _, _, 0, r => by simpa using r
  | _, _, _ + 1, .nil => .nil
  | _, _, n + 1, .cons _ t => Reps.drop n t
theorem Reps.set {d : PyData} {v : V} (r : Rep G L H A d v) : ∀ {ds : List PyData} {vs : List V} (i : Nat), Reps G L H A ds vs → Reps G L H A (ds.set i d) (vs.set i v)
  | _, _, _, .nil => .nil
  | _, _, 0, .cons _ t => .cons r t
  | _, _, i + 1, .cons q t => .cons q (Reps.set r i t)
theorem Reps.reverse : ∀ {ds : List PyData} {vs : List V}, Reps G L H A ds vs → Reps G L H A ds.reverse vs.reverse
  | _, _, .nil => .nil
  | _, _, .cons r t => by
    rw [List.reverse_cons, List.reverse_cons]
    exact Reps.append (Reps.reverse t) (.cons r .nil)
theorem Reps.mem : ∀ {ds : List PyData} {vs : List V} {d : PyData}, Reps G L H A ds vs → d ∈ ds → ∃ v, v ∈ vs ∧ Rep G L H A d v
  | _, _, _, .cons r t, h => by
    rcases List.mem_cons.mp h with rfl | h
    · exact ⟨_, List.mem_cons_self, r⟩
    · obtain ⟨v, h1, h2⟩ := Reps.mem t h
      exact ⟨v, List.mem_cons_of_mem _ h1, h2⟩
theorem Reps.of_all : ∀ {ds : List PyData} {vs : List V}, ds.length = vs.length → (∀ (i : Nat) d v, ds[i]? = some d → vs[i]? = some v → Rep G L H A d v) → Reps G L H A ds vs
  | [], [], _, _ => .nil
  | d :: ds, v :: vs, hl, h => .cons (h 0 d v rfl rfl) (Reps.of_all (by simpa using hl) fun i d v e1 e2 => h (i + 1) d v (by simpa using e1) (by simpa using e2))
  | [], _ :: _, hl, _ => by simp at hl
  | _ :: _, [], hl, _ => by simp at hl
end

end Ev
end

section
set_option maxRecDepth 100000
set_option maxHeartbeats 4000000
namespace Ev
open PySem PySem.Spec PyProof.Rows L2

/-- no list, no dict within -/
def noL : PyData → Bool
  | .none | .bool _ | .int _ | .str _ => true
  | .tuple xs => noLs xs
  | .list _ => false
  | .dict kvs => match kvs with
    | [(.none, .int 1), (.int _, g)] => noL g
    | (.none, .int 2) :: _ => true
    | (.none, .int 3) :: _ => true
    | (.none, .int 5) :: _ => true
    | _ => false
where noLs : List PyData → Bool
  | [] => true
  | x :: xs => noL x && noLs xs
/-- a list or a dict of the program's own -/
def mutD : PyData → Bool
  | .list _ => true
  | .dict kvs => match kvs with
    | (.none, .int 7) :: _ => true
    | (.none, _) :: _ => false
    | _ => true
  | _ => false
def noLs (xs : List PyData) : Bool := xs.all noL
def noLk (kvs : List (PyData × PyData)) : Bool := kvs.all fun p => noL p.2
/-- nothing within a list (dict) holds a list -/
def inner0 : PyData → Bool
  | .list xs => noLs xs
  | .dict kvs => noLk kvs
  | d => noL d

theorem noLs_eq : ∀ xs : List PyData, noL.noLs xs = noLs xs
  | [] => rfl
  | x :: xs => by
    show (noL x && noL.noLs xs) = (noL x && noLs xs)
    rw [noLs_eq xs]

section
variable {G : Gd} {L : List Addr} {H H' : Hp} {A A' : Addr → Prop}
mutual
theorem Rep.free : ∀ {d : PyData} {v : V}, Rep G L H A d v → noL d = true → Rep G L H A' d v
  | _, _, .non, _ => .non
  | _, _, .bl b, _ => .bl b
  | _, _, .int i, _ => .int i
  | _, _, .str x, _ => .str x
  | _, _, .tup h n r, z => .tup h n (Reps.free r (by simpa [noL, noLs_eq] using z))
  | _, _, .lst h n r, z => by simp [noL] at z
  | _, _, .lea h r, z => .lea h (Rep.free r (by simpa [noL] using z))
  | _, _, .fn n, _ => .fn n
  | _, _, .loc h, _ => .loc h
  | _, _, .raw a, _ => .raw a
  | _, _, .frz h n r, z => by simp [noL] at z
  | _, _, .dic h z n r, q => by
    exfalso
    cases r with
    | nil => simp [noL] at q
    | @cons k _ _ _ _ r t => cases k <;> simp [noL, keyD] at q
  | _, _, .dit h z n o r, q => by simp [noL] at q
theorem Reps.free : ∀ {ds : List PyData} {vs : List V}, Reps G L H A ds vs → noLs ds = true → Reps G L H A' ds vs
  | _, _, .nil, _ => .nil
  | d :: ds, _, .cons h r, z => by
    have z' : (noL d && noLs ds) = true := z
    rw [Bool.and_eq_true] at z'
    exact .cons (Rep.free h z'.1) (Reps.free r z'.2)
end
theorem RepK.free : ∀ {ds : List (PyData × PyData)} {vs : List (Key × V)}, RepK G L H A ds vs → noLk ds = true → RepK G L H A' ds vs
  | _, _, .nil, _ => .nil
  | _, _, .cons (d := d) (ds := ds) h r, z => by
    have z' : (noL d && noLk ds) = true := z
    rw [Bool.and_eq_true] at z'
    exact .cons (Rep.free h z'.1) (RepK.free r z'.2)
end

theorem RepT.free : ∀ {ds : List (PyData × PyData)} {vs : List (List Int × Addr × V)}, RepT G L H A ds vs → noLk ds = true → RepT G L H A' ds vs
  | _, _, .nil, _ => .nil
  | _, _, .cons (d := d) (ds := ds) t n h r, z => by
    have z' : (noL d && noLk ds) = true := z
    rw [Bool.and_eq_true] at z'
    exact .cons t n (Rep.free h z'.1) (RepT.free r z'.2)

/-- what stands at an owned address -/
inductive MutRep (G : Gd) (L : List Addr) (H : Hp) (A : Addr → Prop) (a : Addr) : PyData → HO → Prop
  | lst {vs : List V} {ds : List PyData} : vs.length ≤ sizeLine → Reps G L H A ds vs → MutRep G L H A a (.list ds) (.lst vs)
  | dK {kvs : List (Key × V)} {ds : List (PyData × PyData)} : kvs.length ≤ sizeLine → RepK G L H A ds kvs → MutRep G L H A a (.dict ds) (.dK kvs)
  | dT {o : Obj} {ks : List (List Int × Addr × V)} {ds : List (PyData × PyData)} : ks.length ≤ sizeLine → DtObj G a o ks → RepT G L H A ds ks → MutRep G L H A a (rdict ds) (dtO a o)
section
variable {G : Gd} {L : List Addr} {H H' : Hp} {A A' : Addr → Prop} {d : PyData} {o : HO} {a : Addr}
theorem MutRep.keep (k : Kp A H H') (r : MutRep G L H A a d o) : MutRep G L H' A a d o := by
  cases r with
  | lst n r => exact .lst n (r.keep k)
  | dK n r => exact .dK n (r.keep k)
  | dT n o r => exact .dT n o (r.keep k)
theorem MutRep.imp (k : ∀ b, A b → H b ≠ none → A' b) (r : MutRep G L H A a d o) : MutRep G L H A' a d o := by
  cases r with
  | lst n r => exact .lst n (r.imp k)
  | dK n r => exact .dK n (r.imp k)
  | dT n o r => exact .dT n o (r.imp k)
theorem MutRep.free (r : MutRep G L H A a d o) (z : inner0 d = true) : MutRep G L H A' a d o := by
  cases r with
  | lst n r => exact .lst n (r.free z)
  | dK n r => exact .dK n (r.free z)
  | dT n o r => exact .dT n o (r.free (by simpa [inner0, noLk, noL] using z))
theorem MutRep.mut (r : MutRep G L H A a d o) : mutO o = true := by
  cases r with
  | lst _ _ => rfl
  | dK _ _ => rfl
  | dT _ o _ => exact o.mut
theorem MutRep.rep (r : MutRep G L H A a d o) (h : H a = some o) (z : A a) : Rep G L H A d (.ref a) := by
  cases r with
  | lst n r => exact .lst ⟨h, z⟩ n r
  | dK n r => exact .dic h z n r
  | dT n o r => exact .dit h z n o r
end

abbrev Store := List (List PyData)
abbrev Slot := Option (PyData × Bool)
abbrev EnvD := List Slot
/-- an exception: its class by number, its fields -/
structure Exn where
  cls : Nat
  fs : List (Str × PyData) := []

inductive ER (α : Type) where
  | ok (a : α) (st : Store)
  | exn (x : Exn) (st : Store)
  | stuck
def ER.bind {α β : Type} (r : ER α) (k : α → Store → ER β) : ER β := match r with
  | .ok a st => k a st
  | .exn x st => .exn x st
  | .stuck => .stuck
@[simp] theorem ER.bind_ok {α β : Type} (a : α) (st : Store) (k : α → Store → ER β) : (ER.ok a st).bind k = k a st := id rfl
@[simp] theorem ER.bind_exn {α β : Type} (x : Exn) (st : Store) (k : α → Store → ER β) : (ER.exn x st : ER α).bind k = .exn x st := id rfl
@[simp] theorem ER.bind_stuck {α β : Type} (k : α → Store → ER β) : (ER.stuck : ER α).bind k = .stuck := id rfl
def ER.of {α : Type} (o : Option α) (st : Store) : ER α := match o with
  | some a => .ok a st
  | none => .stuck
@[simp] theorem ER.of_some {α : Type} (a : α) (st : Store) : ER.of (some a) st = .ok a st := id rfl
@[simp] theorem ER.of_none {α : Type} (st : Store) : ER.of (none : Option α) st = .stuck := id rfl

/-- the heap has grown; what was is as it was, but the cells of the store and the tables -/
structure Ext (L : List Addr) (H H' : Hp) : Prop where
  keep : ∀ b o, H b = some o → b ∉ L → isTbl o = false → H' b = some o
  dom : ∀ b, H b ≠ none → H' b ≠ none
theorem Ext.refl {L : List Addr} (H : Hp) : Ext L H H := ⟨fun _ _ h _ _ => h, fun _ h => h⟩
theorem Ext.trans {L : List Addr} {H H1 H2 : Hp} (a : Ext L H H1) (b : Ext L H1 H2) : Ext L H H2 :=
  ⟨fun c o h n t => b.keep c o (a.keep c o h n t) n t, fun c h => b.dom c (a.dom c h)⟩
theorem Ext.of_same {L : List Addr} {H H' : Hp} (s : Same H H') : Ext L H H' := ⟨fun b o h _ _ => s b o h, fun b h => by
  cases e : H b with
  | none => exact absurd e h
  | some o => rw [s b o e]; exact fun z => nomatch z⟩
theorem Ext.kp {L : List Addr} {H H' : Hp} {A : Addr → Prop} (e : Ext L H H') (tr : ∀ b, b ∈ L → ∃ vs, H b = some (.lst vs)) (k : ∀ b, A b → b ∉ L) : Kp A H H' := fun b o h m t => by
  by_cases hb : b ∈ L
  · obtain ⟨vs, hv⟩ := tr b hb
    rw [hv] at h
    cases h
    exact absurd hb (k b (m rfl))
  · exact e.keep b o h hb (skip_tbl t)
theorem Ext.free {L : List Addr} {H H' : Hp} (e : Ext L H H') {b : Addr} (h : H' b = none) : H b = none := by
  cases q : H b with
  | none => rfl
  | some o => exact absurd h (e.dom b (by rw [q]; exact fun z => nomatch z))

def OwnAt (ρ : EnvD) (σ : L2.St) (i : Nat) (a : Addr) : Prop := (∃ d, ρ[i]? = some (some (d, true))) ∧ σ[i]? = some (some (.ref a))
def NU (L : List Addr) (ρ : EnvD) (σ : L2.St) (b : Addr) : Prop := b ∉ L ∧ ∀ i, ¬ OwnAt ρ σ i b
/-- where the lists of a value told with the names M may stand -/
def AP (L : List Addr) (ρ : EnvD) (σ : L2.St) (M : List Nat) (H : Hp) (b : Addr) : Prop := b ∉ L ∧ (H b = none ∨ ∀ i, OwnAt ρ σ i b → i ∈ M)

/-- a def's frame: the heap and the store's cells at its entry, the tables, what is wanted of an exception -/
structure Fx where
  G : Gd
  xc : Nat → Addr
  H0 : Hp
  L0 : List Addr
  T : List (Addr × Str)
  EX : XK
  Z : List Addr := []
  /-- so many names -/
  n : Nat

structure Rel (F : Fx) (L : List Addr) (AL : Addr → Prop) (ρ : EnvD) (st : Store) (σ : L2.St) (H : Hp) : Prop where
  len : ρ.length = σ.length
  val : ∀ (i : Nat) d, ρ[i]? = some (some (d, false)) → ∃ v, σ[i]? = some (some v) ∧ Rep F.G L H (NU (L ++ F.Z) ρ σ) d v
  own : ∀ (i : Nat) d, ρ[i]? = some (some (d, true)) → ∃ a o, σ[i]? = some (some (.ref a)) ∧ H a = some o ∧ MutRep F.G L H (NU (L ++ F.Z) ρ σ) a d o ∧ a ∉ L ++ F.Z ∧ F.H0 a = none
  ne : ∀ (i j : Nat) a, OwnAt ρ σ i a → OwnAt ρ σ j a → i = j
  ext : Ext L F.H0 H
  lx : ∃ nw, L = F.L0 ++ nw ∧ ∀ b ∈ nw, F.H0 b = none
  lnd : L.Nodup
  ll : L.length = st.length
  cell : ∀ (i : Nat) a ds, L[i]? = some a → st[i]? = some ds → ∃ vs, H a = some (.lst vs) ∧ vs.length ≤ sizeLine ∧ Reps F.G L H AL ds vs
  al : ∀ b, AL b → b ∉ L ++ F.Z ∧ ∀ i, ¬ OwnAt ρ σ i b
  ald : ∀ b, AL b → H b ≠ none
  tab : LamX.Tabs F.T H
  zt : ∀ b ∈ F.Z, H b ≠ none
  nn : ρ.length = F.n

section
variable {F : Fx} {L : List Addr} {AL : Addr → Prop} {ρ : EnvD} {st st' : Store} {σ : L2.St} {H H' : Hp}
theorem Rel.tr (R : Rel F L AL ρ st σ H) : ∀ b, b ∈ L → ∃ vs, H b = some (.lst vs) := fun b hb => by
  obtain ⟨i, hi, e⟩ := List.mem_iff_getElem.mp hb
  have h1 : L[i]? = some b := by rw [List.getElem?_eq_getElem hi, e]
  have h2 : i < st.length := by rw [← R.ll]; exact hi
  obtain ⟨vs, h, _⟩ := R.cell i b st[i] h1 (List.getElem?_eq_getElem h2)
  exact ⟨vs, h⟩
theorem Rel.notL (R : Rel F L AL ρ st σ H) {b : Addr} (h : H b = none) : b ∉ L := fun hb => by
  obtain ⟨vs, e⟩ := R.tr b hb
  rw [h] at e
  cases e
theorem Rel.notZ (R : Rel F L AL ρ st σ H) {b : Addr} (h : H b = none) : b ∉ L ++ F.Z := fun hb => by
  rcases List.mem_append.mp hb with hb | hb
  · exact R.notL h hb
  · exact R.zt b hb h
theorem notApp {L Z : List Addr} {b : Addr} (h : b ∉ L ++ Z) : b ∉ L := fun z => h (List.mem_append_left _ z)
/-- the heap is another one: the store's cells are told anew -/
theorem Rel.step (R : Rel F L AL ρ st σ H) (e : Ext L H H') (hl : L.length = st'.length) (hc : ∀ (i : Nat) a ds, L[i]? = some a → st'[i]? = some ds → ∃ vs, H' a = some (.lst vs) ∧ vs.length ≤ sizeLine ∧ Reps F.G L H' AL ds vs) (ht : LamX.Tabs F.T H') : Rel F L AL ρ st' σ H' := by
  have kp : Kp (NU (L ++ F.Z) ρ σ) H H' := e.kp R.tr fun b h => notApp h.1
  refine ⟨R.len, fun i d h => ?_, fun i d h => ?_, R.ne, R.ext.trans e, R.lx, R.lnd, hl, hc, R.al, fun b h => e.dom b (R.ald b h), ht, fun b h => e.dom b (R.zt b h), R.nn⟩
  · obtain ⟨v, h1, h2⟩ := R.val i d h
    exact ⟨v, h1, h2.keep kp⟩
  · obtain ⟨a, o, h1, h2, h3, h4, h5⟩ := R.own i d h
    refine ⟨a, o, h1, e.keep a o h2 (notApp h4) ?_, h3.keep kp, h4, h5⟩
    cases h3 <;> rfl
/-- .. where nothing tracked has changed -/
theorem Rel.same (R : Rel F L AL ρ st σ H) (s : Same H H') : Rel F L AL ρ st σ H' :=
  R.step (.of_same s) R.ll (fun i a ds h1 h2 => by
    obtain ⟨vs, h3, h4, h5⟩ := R.cell i a ds h1 h2
    exact ⟨vs, s _ _ h3, h4, h5.keep fun b o hb _ _ => s b o hb⟩) (R.tab.ext s)
theorem Rel.extS (R : Rel F L AL ρ st σ H) (s : Same H H') : Ext L H H' := .of_same s
end

theorem same_upd {H : Hp} {p : Addr} {o : HO} (h : H p = none) : Same H (upd H p o) := fun b x e => by
  rw [upd_ne (ne_of_none e h)]
  exact e

/-- an exception's class and dict -/
def XRep (F : Fx) (x : Exn) (cls : Value) (d : Option Addr) (H : Hp) : Prop :=
  cls = .ref (F.xc x.cls) ∧ ((x.fs = [] ∧ d = none) ∨ ∃ dd vs, x.fs ≠ [] ∧ d = some dd ∧ H dd = some (.xd vs) ∧ vs.map (·.1) = x.fs.map (·.1) ∧ Reps F.G [] H (fun _ => False) (x.fs.map (·.2)) (vs.map (·.2)))

/-- a new list or dict -/
def Fresh (G : Gd) (L : List Addr) (H H' : Hp) (A : Addr → Prop) (fr : Bool) (d : PyData) (v : V) : Prop :=
  fr = true → mutD d = true → ∃ a o, v = .ref a ∧ H a = none ∧ H' a = some o ∧ MutRep G L H' (fun b => A b ∧ b ≠ a) a d o

/-- what is wanted behind an expression -/
def DPost (F : Fx) (L : List Addr) (AL : Addr → Prop) (ρ : EnvD) (σ : L2.St) (H : Hp) (M : List Nat) (fr : Bool) (Q : VK) : ER PyData → Prop
  | .ok d st => ∀ v H', Rel F L AL ρ st σ H' → Ext L H H' → Rep F.G L H' (AP (L ++ F.Z) ρ σ M H) d v → Fresh F.G L H H' (AP (L ++ F.Z) ρ σ M H) fr d v → Q v H'
  | .exn x st => ∀ cls dd H', Rel F L AL ρ st σ H' → Ext L H H' → XRep F x cls dd H' → F.EX cls dd H'
  | .stuck => False
/-- .. behind a row of arguments -/
def DsPost (F : Fx) (L : List Addr) (AL : Addr → Prop) (ρ : EnvD) (σ : L2.St) (H : Hp) (M : List Nat) (Q : List V → Hp → Prop) : ER (List PyData) → Prop
  | .ok ds st => ∀ vs H', Rel F L AL ρ st σ H' → Ext L H H' → Reps F.G L H' (AP (L ++ F.Z) ρ σ M H) ds vs → Q vs H'
  | .exn x st => ∀ cls dd H', Rel F L AL ρ st σ H' → Ext L H H' → XRep F x cls dd H' → F.EX cls dd H'
  | .stuck => False
/-- .. behind a test -/
def BPost (F : Fx) (L : List Addr) (AL : Addr → Prop) (ρ : EnvD) (σ : L2.St) (H : Hp) (Q : Bool → Hp → Prop) : ER Bool → Prop
  | .ok b st => ∀ H', Rel F L AL ρ st σ H' → Ext L H H' → Q b H'
  | .exn x st => ∀ cls dd H', Rel F L AL ρ st σ H' → Ext L H H' → XRep F x cls dd H' → F.EX cls dd H'
  | .stuck => False
abbrev DE := EnvD → Store → ER PyData
abbrev DEs := EnvD → Store → ER (List PyData)
abbrev DB := EnvD → Store → ER Bool
def tD (F : Fx) (M : List Nat) (fr : Bool) (f : DE) : TE := fun σ H Q => ∃ L AL ρ st, Rel F L AL ρ st σ H ∧ DPost F L AL ρ σ H M fr Q (f ρ st)
def tDs (F : Fx) (M : List Nat) (f : DEs) : TA := fun σ H Q => ∃ L AL ρ st, Rel F L AL ρ st σ H ∧ DsPost F L AL ρ σ H M Q (f ρ st)
def tDB (F : Fx) (f : DB) : TT := fun σ H Q => ∃ L AL ρ st, Rel F L AL ρ st σ H ∧ BPost F L AL ρ σ H Q (f ρ st)

theorem _root_.L2.PE.imp {X : Cx} {e : Expr} {t t' : TE} (h : PE X e t) (k : ∀ σ H Q, t' σ H Q → t σ H Q) : PE X e t' := ⟨fun pins s σ H Q I q => h.run pins s σ H Q I (k _ _ _ q)⟩
theorem _root_.L2.PA.imp {X : Cx} {es : List Expr} {t t' : TA} (h : PA X es t) (k : ∀ σ H Q, t' σ H Q → t σ H Q) : PA X es t' := ⟨fun pos pins s σ H Q I q => h.run pos pins s σ H Q I (k _ _ _ q)⟩
theorem _root_.L2.PT.imp {X : Cx} {e : Expr} {t t' : TT} (h : PT X e t) (k : ∀ σ H Q, t' σ H Q → t σ H Q) : PT X e t' := ⟨fun pins s σ H Q I q => h.run pins s σ H Q I (k _ _ _ q)⟩
theorem _root_.L2.PS.imp {X : Cx} {e : Stmt} {t t' : TS} (h : PS X e t) (k : ∀ D σ H, t' D σ H → t D σ H) : PS X e t' := ⟨fun pins s σ H D I q => h.run pins s σ H D I (k _ _ _ q)⟩
theorem _root_.L2.PSs.imp {X : Cx} {e : List Stmt} {t t' : TS} (h : PSs X e t) (k : ∀ D σ H, t' D σ H → t D σ H) : PSs X e t' := ⟨fun pins s σ H D I q => h.run pins s σ H D I (k _ _ _ q)⟩

section
variable {F : Fx} {L : List Addr} {AL : Addr → Prop} {ρ : EnvD} {st : Store} {σ : L2.St} {H H1 H2 : Hp} {M M' : List Nat} {fr : Bool} {Q : VK}
theorem AP.mono {E : List Addr} {b : Addr} (h : ∀ i, i ∈ M → i ∈ M') (k : AP E ρ σ M H b) : AP E ρ σ M' H b := ⟨k.1, k.2.imp id fun q i hi => h i (q i hi)⟩
theorem AP.back {E : List Addr} {b : Addr} (e : Ext L H H1) (h : ∀ i, i ∈ M → i ∈ M') (k : AP E ρ σ M H1 b) : AP E ρ σ M' H b := ⟨k.1, k.2.imp (fun z => e.free z) fun q i hi => h i (q i hi)⟩
/-- the first of two parts -/
theorem tD_bind {f : DE} {β : Type} {k : PyData → Store → ER β} {P : ER β → Prop} {Q1 : VK} (R : Rel F L AL ρ st σ H) (h : P ((f ρ st).bind k))
    (hx : ∀ x st', P (.exn x st') → ∀ cls dd H', Rel F L AL ρ st' σ H' → Ext L H H' → XRep F x cls dd H' → F.EX cls dd H') (hs : ¬ P .stuck)
    (hk : ∀ d st' v H', Rel F L AL ρ st' σ H' → Ext L H H' → Rep F.G L H' (AP (L ++ F.Z) ρ σ M H) d v → Fresh F.G L H H' (AP (L ++ F.Z) ρ σ M H) fr d v → P (k d st') → Q1 v H') : tD F M fr f σ H Q1 := by
  refine ⟨L, AL, ρ, st, R, ?_⟩
  cases e : f ρ st with
  | ok d st' =>
    rw [e] at h
    exact fun v H' R' E' r fre => hk d st' v H' R' E' r fre h
  | exn x st' =>
    rw [e] at h
    exact hx x st' h
  | stuck =>
    rw [e] at h
    exact hs h
theorem tDs_bind {f : DEs} {β : Type} {k : List PyData → Store → ER β} {P : ER β → Prop} {Q1 : List V → Hp → Prop} (R : Rel F L AL ρ st σ H) (h : P ((f ρ st).bind k))
    (hx : ∀ x st', P (.exn x st') → ∀ cls dd H', Rel F L AL ρ st' σ H' → Ext L H H' → XRep F x cls dd H' → F.EX cls dd H') (hs : ¬ P .stuck)
    (hk : ∀ ds st' vs H', Rel F L AL ρ st' σ H' → Ext L H H' → Reps F.G L H' (AP (L ++ F.Z) ρ σ M H) ds vs → P (k ds st') → Q1 vs H') : tDs F M f σ H Q1 := by
  refine ⟨L, AL, ρ, st, R, ?_⟩
  cases e : f ρ st with
  | ok d st' =>
    rw [e] at h
    exact fun v H' R' E' r => hk d st' v H' R' E' r h
  | exn x st' =>
    rw [e] at h
    exact hx x st' h
  | stuck =>
    rw [e] at h
    exact hs h
theorem tDB_bind {f : DB} {β : Type} {k : Bool → Store → ER β} {P : ER β → Prop} {Q1 : Bool → Hp → Prop} (R : Rel F L AL ρ st σ H) (h : P ((f ρ st).bind k))
    (hx : ∀ x st', P (.exn x st') → ∀ cls dd H', Rel F L AL ρ st' σ H' → Ext L H H' → XRep F x cls dd H' → F.EX cls dd H') (hs : ¬ P .stuck)
    (hk : ∀ b st' H', Rel F L AL ρ st' σ H' → Ext L H H' → P (k b st') → Q1 b H') : tDB F f σ H Q1 := by
  refine ⟨L, AL, ρ, st, R, ?_⟩
  cases e : f ρ st with
  | ok d st' =>
    rw [e] at h
    exact fun H' R' E' => hk d st' H' R' E' h
  | exn x st' =>
    rw [e] at h
    exact hx x st' h
  | stuck =>
    rw [e] at h
    exact hs h
/-- a value told ahead, in a later heap -/
theorem Rep.later {d : PyData} {v : V} (R1 : Rel F L AL ρ st σ H1) (e : Ext L H1 H2) (r : Rep F.G L H1 (AP (L ++ F.Z) ρ σ M H) d v) : Rep F.G L H2 (AP (L ++ F.Z) ρ σ M H) d v :=
  r.keep (e.kp R1.tr fun b h => notApp h.1)
theorem Reps.later {d : List PyData} {v : List V} (R1 : Rel F L AL ρ st σ H1) (e : Ext L H1 H2) (r : Reps F.G L H1 (AP (L ++ F.Z) ρ σ M H) d v) : Reps F.G L H2 (AP (L ++ F.Z) ρ σ M H) d v :=
  r.keep (e.kp R1.tr fun b h => notApp h.1)
/-- what is wanted behind a part is told of the whole's begin -/
theorem DPost.later {f : ER PyData} (e : Ext L H H1) (h : DPost F L AL ρ σ H M fr Q f) (hM : ∀ i, i ∈ M' → i ∈ M) : DPost F L AL ρ σ H1 M' fr Q f := by
  cases f with
  | ok d st =>
    intro v H' R' E' r fre
    refine h v H' R' (e.trans E') (r.imp fun b k _ => k.back e hM) fun h1 h2 => ?_
    obtain ⟨a, o, e1, e2, e3, e4⟩ := fre h1 h2
    exact ⟨a, o, e1, e.free e2, e3, e4.imp fun b k _ => ⟨k.1.back e hM, k.2⟩⟩
  | exn x st => exact fun cls dd H' R' E' r => h cls dd H' R' (e.trans E') r
  | stuck => exact h
end
end Ev
end

section
set_option maxRecDepth 100000
set_option maxHeartbeats 4000000
namespace Ev
open PySem PySem.Spec PyProof.Rows L2

/-! ### the combinators -/
def eVar (i : Nat) : DE := fun ρ st => match ρ[i]? with
  | some (some (d, _)) => .ok d st
  | _ => .stuck
def eC (d : PyData) : DE := fun _ st => .ok d st
def eNil : DEs := fun _ st => .ok [] st
def eCons (f : DE) (fs : DEs) : DEs := fun ρ st => (f ρ st).bind fun d st => (fs ρ st).bind fun ds st => .ok (d :: ds) st
def eOp (g : PyData → PyData → Option PyData) (fa fb : DE) : DE := fun ρ st => (fa ρ st).bind fun a st => (fb ρ st).bind fun b st => .of (g a b) st
def eUn (g : PyData → Option PyData) (fa : DE) : DE := fun ρ st => (fa ρ st).bind fun a st => .of (g a) st
def eArgs (g : List PyData → Option PyData) (fs : DEs) : DE := fun ρ st => (fs ρ st).bind fun ds st => .of (g ds) st
def lineL (ds : List PyData) : Bool := decide (ds.length ≤ sizeLine)
def eTup (fs : DEs) : DE := fun ρ st => (fs ρ st).bind fun ds st => if lineL ds = true then .ok (.tuple ds) st else .stuck
def eLst (fs : DEs) : DE := fun ρ st => (fs ρ st).bind fun ds st => if lineL ds = true then .ok (.list ds) st else .stuck
def asB : PyData → Option Bool
  | .bool b => some b
  | _ => none
def eB (f : DE) : DB := fun ρ st => (f ρ st).bind fun d st => .of (asB d) st
def eAnd (fa fb : DE) : DE := fun ρ st => (eB fa ρ st).bind fun b st => if b = true then fb ρ st else .ok (.bool false) st
def eOr (fa fb : DE) : DE := fun ρ st => (eB fa ρ st).bind fun b st => if b = true then .ok (.bool true) st else fb ρ st
def eNot (fa : DE) : DE := fun ρ st => (eB fa ρ st).bind fun b st => .ok (.bool (!b)) st
def bAnd (fa fb : DB) : DB := fun ρ st => (fa ρ st).bind fun b st => if b = true then fb ρ st else .ok false st
def bOr (fa fb : DB) : DB := fun ρ st => (fa ρ st).bind fun b st => if b = true then .ok true st else fb ρ st
def bNot (fa : DB) : DB := fun ρ st => (fa ρ st).bind fun b st => .ok (!b) st
def eIf (c : DB) (fa fb : DE) : DE := fun ρ st => (c ρ st).bind fun b st => if b = true then fa ρ st else fb ρ st
/-- a < b < c -/
def eChain (g g' : PyData → PyData → Option PyData) (fa fb fc : DE) : DE := fun ρ st => (fa ρ st).bind fun a st => (fb ρ st).bind fun b st => (ER.of ((g a b).bind asB) st).bind fun k st =>
  if k = true then (fc ρ st).bind fun c st => .of (g' b c) st else .ok (.bool false) st

/-- a value by values: what an operator, a call asks -/
def rV (G : Gd) (fr : Bool) (g : List PyData → Option PyData) : List V → Hp → VK → Prop := fun xs H Q => ∃ L A ds, Reps G L H A ds xs ∧ ∃ w, g ds = some w ∧
  ∀ v H', Same H H' → Rep G L H' (fun b => A b ∨ H b = none) w v → Fresh G L H H' (fun b => A b ∨ H b = none) fr w v → Q v H'
def r2 (G : Gd) (fr : Bool) (g : PyData → PyData → Option PyData) : R2 := fun x y H Q => rV G fr (fun ds => match ds with | [d, e] => g d e | _ => none) [x, y] H Q
def r1 (G : Gd) (fr : Bool) (g : PyData → Option PyData) : V → Hp → VK → Prop := fun x H Q => rV G fr (fun ds => match ds with | [d] => g d | _ => none) [x] H Q

section
variable {F : Fx} {L : List Addr} {AL : Addr → Prop} {ρ : EnvD} {st : Store} {σ : L2.St} {H H1 H2 : Hp} {M M1 M2 : List Nat} {fr : Bool} {Q : VK}
theorem fin_op {g : List PyData → Option PyData} {ds : List PyData} {vs : List V} (R : Rel F L AL ρ st σ H1) (e : Ext L H H1) (h : DPost F L AL ρ σ H M fr Q (.of (g ds) st)) (r : Reps F.G L H1 (AP (L ++ F.Z) ρ σ M H) ds vs) : rV F.G fr g vs H1 Q := by
  cases q : g ds with
  | none =>
    rw [q] at h
    exact h.elim
  | some w =>
    rw [q] at h
    have up : ∀ b, (AP (L ++ F.Z) ρ σ M H b ∨ H1 b = none) → AP (L ++ F.Z) ρ σ M H b := fun b k => k.elim id fun z => ⟨R.notZ z, .inl (e.free z)⟩
    refine ⟨L, _, ds, r, w, q, fun v H' s rep fre => h v H' (R.same s) (e.trans (.of_same s)) (rep.imp fun b k _ => up b k) fun h1 h2 => ?_⟩
    obtain ⟨a, o, e1, e2, e3, e4⟩ := fre h1 h2
    exact ⟨a, o, e1, e.free e2, e3, e4.imp fun b k _ => ⟨up b k.1, k.2⟩⟩
end

section
variable {X : Cx} {F : Fx} {M M1 M2 M3 : List Nat} {fr fr1 fr2 : Bool} {e a b c : Expr} {es : List Expr} {f fa fb fc : DE} {fs : DEs} {pos p : Pos}

theorem _root_.L2.PE.weakM {M' : List Nat} (h : PE X e (tD F M fr f)) (k : ∀ i, i ∈ M → i ∈ M') : PE X e (tD F M' fr f) := h.imp fun σ H Q ⟨L, AL, ρ, st, R, q⟩ => ⟨L, AL, ρ, st, R, q.later (.refl _) k⟩
theorem _root_.L2.PE.old (h : PE X e (tD F M fr f)) : PE X e (tD F M false f) := h.imp fun σ H Q ⟨L, AL, ρ, st, R, q⟩ => ⟨L, AL, ρ, st, R, by
  cases e : f ρ st with
  | ok d st' => rw [e] at q; exact fun v H' R' E' r _ => q v H' R' E' r fun z => nomatch z
  | exn x st' => rw [e] at q; exact q
  | stuck => rw [e] at q; exact q⟩

theorem pe_varD {i : Nat} {x : Str} (hN : X.N[i]? = some x) (hv : Vis X.env.scope x) (hd : (x == ("__debug__" : Str)) = false := by decide) (hcd : (x == ("__classdict__" : Str)) = false := by decide) :
    PE X (.Name x pos) (tD F [i] false (eVar i)) := (pe_var hN hv hd hcd).imp fun σ H Q ⟨L, AL, ρ, st, R, h⟩ => by
  unfold eVar at h
  cases q : ρ[i]? with
  | none =>
    rw [q] at h
    exact h.elim
  | some o =>
    cases o with
    | none =>
      rw [q] at h
      exact h.elim
    | some z =>
      obtain ⟨d, w⟩ := z
      rw [q] at h
      cases w with
      | false =>
        obtain ⟨v, h1, h2⟩ := R.val i d q
        exact ⟨v, h1, h v H R (.refl _) (h2.imp fun b k _ => ⟨k.1, .inr fun j hj => (k.2 j hj).elim⟩) fun z => nomatch z⟩
      | true =>
        obtain ⟨a, o, h1, h2, h3, h4, _⟩ := R.own i d q
        refine ⟨.ref a, h1, h _ H R (.refl _) (MutRep.rep (h3.imp fun b k _ => ⟨k.1, .inr fun j hj => (k.2 j hj).elim⟩) h2 ⟨h4, .inr fun j hj => ?_⟩) fun z => nomatch z⟩
        rw [R.ne j i a hj ⟨⟨d, q⟩, h1⟩]
        exact List.mem_cons_self
theorem tD_const {d : PyData} {v : V} (r : ∀ L H, Rep F.G L H (fun _ => False) d v) {σ : L2.St} {H : Hp} {Q : VK} (h : tD F [] fr (eC d) σ H Q) (hm : fr = true → mutD d = false) : Q v H := by
  obtain ⟨L, AL, ρ, st, R, h⟩ := h
  exact h v H R (.refl _) ((r L H).imp fun _ z _ => z.elim) fun h1 h2 => by
    rw [hm h1] at h2
    cases h2
theorem pe_constD {d : PyData} {v : V} (h : PE X e (tC v)) (r : ∀ L H, Rep F.G L H (fun _ => False) d v) : PE X e (tD F [] false (eC d)) :=
  h.imp fun σ H Q q => tD_const r q fun z => nomatch z
theorem pe_intD {i j} : PE X (.Constant (.int i) j pos) (tD F [] false (eC (.int i))) := pe_constD pe_int fun _ _ => .int i
theorem pe_boolD {i j} : PE X (.Constant (.bool i) j pos) (tD F [] false (eC (.bool i))) := pe_constD pe_bl fun _ _ => .bl i
theorem pe_noneD {j} : PE X (.Constant .none j pos) (tD F [] false (eC .none)) := pe_constD pe_non fun _ _ => .non
theorem pe_strD {x j} : PE X (.Constant (.str x) j pos) (tD F [] false (eC (.str x))) := pe_constD pe_str fun _ _ => .str x

theorem pa_nilD : PA X [] (tDs F [] eNil) := pa_nil.imp fun σ H Q ⟨L, AL, ρ, st, R, h⟩ => h [] H R (.refl _) .nil
theorem pa_consD (ha : PE X e (tD F M1 fr f)) (hr : PA X es (tDs F M2 fs)) (hs : starEach (e :: es) X.env = (false, eval e X.env) :: starEach es X.env := by rfl) : PA X (e :: es) (tDs F (M1 ++ M2) (eCons f fs)) :=
  (pa_cons ha hr hs).imp fun σ H Q ⟨L, AL, ρ, st, R, h⟩ => by
    refine tD_bind (P := DsPost F L AL ρ σ H (M1 ++ M2) Q) R h (fun x st' h => h) (fun h => h) fun d st1 v H1 R1 E1 rd _ h => ?_
    refine tDs_bind (P := DsPost F L AL ρ σ H (M1 ++ M2) Q) R1 h (fun x st' h cls dd H' R' E' xr => h cls dd H' R' (E1.trans E') xr) (fun h => h) fun ds st2 vs H2 R2 E2 rs h => ?_
    refine h (v :: vs) H2 R2 (E1.trans E2) (.cons ?_ ?_)
    · exact (rd.later R1 E2).imp fun b k _ => k.mono fun i hi => List.mem_append_left _ hi
    · exact rs.imp fun b k _ => k.back E1 fun i hi => List.mem_append_right _ hi

theorem pe_tupD {x1} (h : PA X es (tDs F M fs)) : PE X (.Tuple es x1 pos) (tD F M false (eTup fs)) := by
  refine ⟨fun pins s σ H Q I ⟨L, AL, ρ, st, R, hq⟩ => ?_⟩
  have key : tDs F M fs σ H fun vs H1 => vs.length ≤ sizeLine ∧ ∀ q o, H1 q = none → o.dict = none → Q (.ref q) (upd H1 q (.frz o (.tup vs))) := by
    refine tDs_bind (P := DPost F L AL ρ σ H M false Q) R hq (fun x st' h => h) (fun h => h) fun ds st1 vs H1 R1 E1 rs h => ?_
    by_cases hl : lineL ds = true
    · rw [if_pos hl] at h
      have hl : vs.length ≤ sizeLine := by rw [← rs.length]; exact of_decide_eq_true hl
      refine ⟨hl, fun q o hq hd => h _ _ (R1.same (same_upd hq)) (E1.trans (.of_same (same_upd hq))) (.tup (.inl ⟨o, upd_same, hd⟩) hl (rs.keep ?_)) fun z => nomatch z⟩
      exact fun b o hb _ _ => same_upd hq b o hb
    · rw [if_neg hl] at h
      exact h.elim
  refine wpAny_Tuple_spliced (thn (h.run pos pins s σ H _ I key) fun us s1 ⟨xs, H1, I1, r, z, q⟩ => ⟨by rw [← r.length]; exact z, ?_⟩)
  exact ⟨.ref s1.heap.objs.size, _, I1.tnew (t' := s1.toks) r z, rfl, q _ _ (I1.hok.fresh (Nat.le_refl _)) rfl⟩
theorem pe_lstD (h : PA X es (tDs F M fs)) : PE X (.List es pos) (tD F M true (eLst fs)) := (pe_lst h).imp fun σ H Q ⟨L, AL, ρ, st, R, h⟩ => by
  refine tDs_bind (P := DPost F L AL ρ σ H M true Q) R h (fun x st' h => h) (fun h => h) fun ds st1 vs H1 R1 E1 rs h => ?_
  by_cases hl : lineL ds = true
  · rw [if_pos hl] at h
    have hl : vs.length ≤ sizeLine := by rw [← rs.length]; exact of_decide_eq_true hl
    refine ⟨hl, fun q hq => ?_⟩
    have rs' : Reps F.G L (upd H1 q (.lst vs)) (AP (L ++ F.Z) ρ σ M H) ds vs := rs.keep fun b o hb _ _ => same_upd hq b o hb
    refine h _ _ (R1.same (same_upd hq)) (E1.trans (.of_same (same_upd hq))) (.lst ⟨upd_same, R1.notZ hq, .inl (E1.free hq)⟩ hl rs') fun _ _ => ⟨q, _, rfl, E1.free hq, upd_same, .lst hl ?_⟩
    refine (rs.imp (A' := fun b => AP (L ++ F.Z) ρ σ M H b ∧ b ≠ q) fun b k hb => ⟨k, fun z => hb (by rw [z]; exact hq)⟩).keep fun b o hb _ _ => same_upd hq b o hb
  · rw [if_neg hl] at h
    exact h.elim

theorem pe_opD {op : Operator} {g : PyData → PyData → Option PyData} (ho : OpR X (binaryOp op) (r2 F.G fr g)) (ha : PE X a (tD F M1 fr1 fa)) (hb : PE X b (tD F M2 fr2 fb)) : PE X (.BinOp a op b pos) (tD F (M1 ++ M2) fr (eOp g fa fb)) :=
  (pe_op ho ha hb).imp fun σ H Q ⟨L, AL, ρ, st, R, h⟩ => by
    refine tD_bind (P := DPost F L AL ρ σ H (M1 ++ M2) fr Q) R h (fun x st' h => h) (fun h => h) fun d st1 v H1 R1 E1 rd _ h => ?_
    refine tD_bind (P := DPost F L AL ρ σ H (M1 ++ M2) fr Q) R1 h (fun x st' h cls dd H' R' E' xr => h cls dd H' R' (E1.trans E') xr) (fun h => h) fun d2 st2 v2 H2 R2 E2 rd2 _ h => ?_
    refine fin_op R2 (E1.trans E2) h (.cons ?_ (.cons ?_ .nil))
    · exact (rd.later R1 E2).imp fun b k _ => k.mono fun i hi => List.mem_append_left _ hi
    · exact rd2.imp fun b k _ => k.back E1 fun i hi => List.mem_append_right _ hi
theorem op2_read {g : PyData → PyData → Option PyData} {σ : L2.St} {H : Hp} {Q : VK} (h : tD F (M1 ++ M2) fr (eOp g fa fb) σ H Q) : tOp (r2 F.G fr g) (tD F M1 fr1 fa) (tD F M2 fr2 fb) σ H Q := by
  obtain ⟨L, AL, ρ, st, R, h⟩ := h
  refine tD_bind (P := DPost F L AL ρ σ H (M1 ++ M2) fr Q) R h (fun x st' h => h) (fun h => h) fun d st1 v H1 R1 E1 rd hfr1 h => ?_
  refine tD_bind (P := DPost F L AL ρ σ H (M1 ++ M2) fr Q) R1 h (fun x st' h cls dd H' R' E' xr => h cls dd H' R' (E1.trans E') xr) (fun h => h) fun d2 st2 v2 H2 R2 E2 rd2 hfr2 h => ?_
  refine fin_op R2 (E1.trans E2) h (.cons ?_ (.cons ?_ .nil))
  · exact (rd.later R1 E2).imp fun b k _ => k.mono fun i hi => List.mem_append_left _ hi
  · exact rd2.imp fun b k _ => k.back E1 fun i hi => List.mem_append_right _ hi
theorem pe_cmpD {op : CmpOp} {g : PyData → PyData → Option PyData} (ho : OpR X (compareOp op) (r2 F.G false g)) (ha : PE X a (tD F M1 fr1 fa)) (hb : PE X b (tD F M2 fr2 fb)) (hm : behindInMarks op b = false := by rfl) :
    PE X (.Compare a [op] [b] pos) (tD F (M1 ++ M2) false (eOp g fa fb)) := (pe_cmpR ho ha hb hm).imp fun σ H Q h => op2_read h
theorem pe_unD {op : UnaryOp} {g : PyData → Option PyData} (ho : UnR X (unaryOp op) (r1 F.G false g)) (ha : PE X a (tD F M1 fr1 fa)) : PE X (.UnaryOp op a pos) (tD F M1 false (eUn g fa)) :=
  (pe_un ho ha).imp fun σ H Q ⟨L, AL, ρ, st, R, h⟩ => by
    refine tD_bind (P := DPost F L AL ρ σ H M1 false Q) R h (fun x st' h => h) (fun h => h) fun d st1 v H1 R1 E1 rd _ h => ?_
    exact fin_op R1 E1 h (.cons rd .nil)

/-! tests -/
theorem test_read {f : DE} {σ : L2.St} {H : Hp} {Q : Bool → Hp → Prop} (h : tDB F (eB f) σ H Q) : tD F M fr f σ H fun x H1 => ∃ c, x = .bl c ∧ Q c H1 := by
  obtain ⟨L, AL, ρ, st, R, h⟩ := h
  refine tD_bind (P := BPost F L AL ρ σ H Q) R h (fun x st' h => h) (fun h => h) fun d st1 v H1 R1 E1 rd _ h => ?_
  cases rd with
  | bl c => exact ⟨c, rfl, h H1 R1 E1⟩
  | _ => exact h.elim
theorem pt_valD {f : DE} (h : PE X e (tD F M fr f)) (he : ∀ whole, isTrue e X.env whole = (do let v ← whole; standAt e.pos; holding [v] (truthy v)) := by intro _; rfl) : PT X e (tDB F (eB f)) :=
  (pt_val h he).imp fun σ H Q q => test_read q
theorem pt_cmpD {op : CmpOp} {g : PyData → PyData → Option PyData} (ho : OpR X (compareOp op) (r2 F.G false g)) (ha : PE X a (tD F M1 fr1 fa)) (hb : PE X b (tD F M2 fr2 fb)) (hm : behindInMarks op b = false := by rfl) :
    PT X (.Compare a [op] [b] pos) (tDB F (eB (eOp g fa fb))) := (pt_cmpR ho ha hb hm).imp fun σ H Q q => op2_read (test_read q)
theorem pw_andD {fa fb : DB} {rest : List Expr} (ha : PT X a (tDB F fa)) (hb : PW X (.BoolOp .And (b :: rest) pos) (tDB F fb)) : PW X (.BoolOp .And (a :: b :: rest) pos) (tDB F (bAnd fa fb)) := by
  refine ⟨fun wh pins s σ H Q I q => (pw_and ha hb).run wh pins s σ H Q I ?_⟩
  obtain ⟨L, AL, ρ, st, R, h⟩ := q
  refine tDB_bind (P := BPost F L AL ρ σ H Q) R h (fun x st' h => h) (fun h => h) fun c st1 H1 R1 E1 h => ?_
  cases c with
  | true =>
    refine iteT ⟨L, AL, ρ, st1, R1, ?_⟩
    have h' : BPost F L AL ρ σ H Q (fb ρ st1) := h
    cases e : fb ρ st1 with
    | ok d st' => rw [e] at h'; exact fun H' R' E' => h' H' R' (E1.trans E')
    | exn x st' => rw [e] at h'; exact fun cls dd H' R' E' xr => h' cls dd H' R' (E1.trans E') xr
    | stuck => rw [e] at h'; exact h'
  | false => exact iteF (h H1 R1 E1)
theorem pw_orD {fa fb : DB} {rest : List Expr} (ha : PT X a (tDB F fa)) (hb : PW X (.BoolOp .Or (b :: rest) pos) (tDB F fb)) : PW X (.BoolOp .Or (a :: b :: rest) pos) (tDB F (bOr fa fb)) := by
  refine ⟨fun wh pins s σ H Q I q => (pw_or ha hb).run wh pins s σ H Q I ?_⟩
  obtain ⟨L, AL, ρ, st, R, h⟩ := q
  refine tDB_bind (P := BPost F L AL ρ σ H Q) R h (fun x st' h => h) (fun h => h) fun c st1 H1 R1 E1 h => ?_
  cases c with
  | false =>
    refine iteF ⟨L, AL, ρ, st1, R1, ?_⟩
    have h' : BPost F L AL ρ σ H Q (fb ρ st1) := h
    cases e : fb ρ st1 with
    | ok d st' => rw [e] at h'; exact fun H' R' E' => h' H' R' (E1.trans E')
    | exn x st' => rw [e] at h'; exact fun cls dd H' R' E' xr => h' cls dd H' R' (E1.trans E') xr
    | stuck => rw [e] at h'; exact h'
  | true => exact iteT (h H1 R1 E1)
theorem pw_and1D {fa : DB} (ha : PT X a (tDB F fa)) : PW X (.BoolOp .And [a] pos) (tDB F fa) := pw_and1 ha
theorem pw_or1D {fa : DB} (ha : PT X a (tDB F fa)) : PW X (.BoolOp .Or [a] pos) (tDB F fa) := pw_or1 ha
theorem pt_notD {fa : DB} (ha : PT X a (tDB F fa)) : PT X (.UnaryOp .Not a pos) (tDB F (bNot fa)) := (pt_not ha).imp fun σ H Q ⟨L, AL, ρ, st, R, h⟩ => by
  refine tDB_bind (P := BPost F L AL ρ σ H Q) R h (fun x st' h => h) (fun h => h) fun c st1 H1 R1 E1 h => ?_
  exact h H1 R1 E1

/-! and, or, not, if as values -/
theorem DPost.frF {L : List Addr} {AL : Addr → Prop} {ρ : EnvD} {σ : L2.St} {H : Hp} {M : List Nat} {Q : VK} {f : ER PyData} (h : DPost F L AL ρ σ H M false Q f) : DPost F L AL ρ σ H M fr Q f := by
  cases f with
  | ok d st => exact fun v H' R' E' r _ => h v H' R' E' r fun z => nomatch z
  | exn x st => exact h
  | stuck => exact h
theorem pe_andD {rest : List Expr} (ha : PE X a (tD F M1 fr1 fa)) (hb : PE X (.BoolOp .And (b :: rest) pos) (tD F M2 fr2 fb)) : PE X (.BoolOp .And (a :: b :: rest) pos) (tD F M2 false (eAnd fa fb)) :=
  (pe_and ha hb).imp fun σ H Q ⟨L, AL, ρ, st, R, h⟩ => by
    have q : tDB F (eB fa) σ H fun c H1 => if c = true then tD F M2 fr2 fb σ H1 Q else Q (.bl false) H1 := by
      refine tDB_bind (P := DPost F L AL ρ σ H M2 false Q) R h (fun x st' h => h) (fun h => h) fun c st1 H1 R1 E1 h => ?_
      cases c with
      | true => exact iteT ⟨L, AL, ρ, st1, R1, (DPost.later E1 h fun i hi => hi).frF⟩
      | false => exact iteF (h _ H1 R1 E1 (.bl false) fun z => nomatch z)
    exact test_read q
theorem pe_orD {rest : List Expr} (ha : PE X a (tD F M1 fr1 fa)) (hb : PE X (.BoolOp .Or (b :: rest) pos) (tD F M2 fr2 fb)) : PE X (.BoolOp .Or (a :: b :: rest) pos) (tD F M2 false (eOr fa fb)) :=
  (pe_or ha hb).imp fun σ H Q ⟨L, AL, ρ, st, R, h⟩ => by
    have q : tDB F (eB fa) σ H fun c H1 => if c = true then Q (.bl true) H1 else tD F M2 fr2 fb σ H1 Q := by
      refine tDB_bind (P := DPost F L AL ρ σ H M2 false Q) R h (fun x st' h => h) (fun h => h) fun c st1 H1 R1 E1 h => ?_
      cases c with
      | false => exact iteF ⟨L, AL, ρ, st1, R1, (DPost.later E1 h fun i hi => hi).frF⟩
      | true => exact iteT (h _ H1 R1 E1 (.bl true) fun z => nomatch z)
    exact test_read q
theorem pe_oneD {op} (ha : PE X a (tD F M1 fr1 fa)) : PE X (.BoolOp op [a] pos) (tD F M1 fr1 fa) := pe_one ha
theorem pe_notD (ha : PE X a (tD F M1 fr1 fa)) : PE X (.UnaryOp .Not a pos) (tD F [] false (eNot fa)) := (pe_not ha).imp fun σ H Q ⟨L, AL, ρ, st, R, h⟩ => by
  have q : tDB F (eB fa) σ H fun c H1 => Q (.bl (!c)) H1 :=
    tDB_bind (P := DPost F L AL ρ σ H [] false Q) R h (fun x st' h => h) (fun h => h) fun c st1 H1 R1 E1 h => h _ H1 R1 E1 (.bl _) fun z => nomatch z
  exact test_read q
theorem pe_ifD {fc : DB} (hc : PT X c (tDB F fc)) (ha : PE X a (tD F M1 fr fa)) (hb : PE X b (tD F M2 fr fb)) : PE X (.IfExp c a b pos) (tD F (M1 ++ M2) fr (eIf fc fa fb)) :=
  (pe_ifExp hc ha hb).imp fun σ H Q ⟨L, AL, ρ, st, R, h⟩ => by
    refine tDB_bind (P := DPost F L AL ρ σ H (M1 ++ M2) fr Q) R h (fun x st' h => h) (fun h => h) fun c st1 H1 R1 E1 h => ?_
    cases c with
    | true => exact iteT ⟨L, AL, ρ, st1, R1, DPost.later E1 h fun i hi => List.mem_append_left _ hi⟩
    | false => exact iteF ⟨L, AL, ρ, st1, R1, DPost.later E1 h fun i hi => List.mem_append_right _ hi⟩

/-! a < b < c -/
theorem chain_read {g g' : PyData → PyData → Option PyData} {fr3 : Bool} {σ : L2.St} {H : Hp} {Q : VK} (h : tD F [] false (eChain g g' fa fb fc) σ H Q) (hg : ∀ d e w, g d e = some w → ∃ k, w = .bool k) (hg' : ∀ d e w, g' d e = some w → ∃ k, w = .bool k) :
    tChain (r2 F.G false g) (r2 F.G false g') (tD F M1 fr1 fa) (tD F M2 fr2 fb) (tD F M3 fr3 fc) σ H Q := by
  obtain ⟨L, AL, ρ, st, R, h⟩ := h
  refine tD_bind (P := DPost F L AL ρ σ H [] false Q) R h (fun x st' h => h) (fun h => h) fun d st1 v H1 R1 E1 rd hfr1 h => ?_
  refine tD_bind (P := DPost F L AL ρ σ H [] false Q) R1 h (fun x st' h cls dd H' R' E' xr => h cls dd H' R' (E1.trans E') xr) (fun h => h) fun d2 st2 v2 H2 R2 E2 rd2 hfr2 h => ?_
  have ra : Rep F.G L H2 (AP (L ++ F.Z) ρ σ (M1 ++ M2) H) d v := (rd.later R1 E2).imp fun b k _ => k.mono fun i hi => List.mem_append_left _ hi
  have rb : Rep F.G L H2 (AP (L ++ F.Z) ρ σ (M1 ++ M2) H) d2 v2 := rd2.imp fun b k _ => k.back E1 fun i hi => List.mem_append_right _ hi
  cases q : g d d2 with
  | none =>
    rw [q] at h
    exact h.elim
  | some w =>
    obtain ⟨k, rfl⟩ := hg d d2 w q
    rw [q] at h
    refine ⟨L, _, [d, d2], .cons ra (.cons rb .nil), .bool k, q, fun z H3 s3 rz _ => ?_⟩
    cases rz
    refine ⟨k, rfl, ?_⟩
    have R3 := R2.same s3
    have E3 : Ext L H H3 := (E1.trans E2).trans (.of_same s3)
    cases k with
    | false => exact iteF (h _ H3 R3 E3 (.bl false) fun z => nomatch z)
    | true =>
      refine iteT ?_
      have h : DPost F L AL ρ σ H [] false Q ((fc ρ st2).bind fun c st => .of (g' d2 c) st) := h
      refine tD_bind (P := DPost F L AL ρ σ H [] false Q) R3 h (fun x st' h cls dd H' R' E' xr => h cls dd H' R' (E3.trans E') xr) (fun h => h) fun d4 st4 v4 H4 R4 E4 rd4 _ h => ?_
      cases q4 : g' d2 d4 with
      | none =>
        rw [q4] at h
        exact h.elim
      | some w4 =>
        obtain ⟨k4, rfl⟩ := hg' d2 d4 w4 q4
        rw [q4] at h
        have rb3 : Rep F.G L H3 (AP (L ++ F.Z) ρ σ (M1 ++ M2) H) d2 v2 := rb.keep fun b o hb _ _ => s3 b o hb
        have rb4 : Rep F.G L H4 (AP (L ++ F.Z) ρ σ (M1 ++ M2 ++ M3) H) d2 v2 := (rb3.later R3 E4).imp fun b k _ => k.mono fun i hi => List.mem_append_left _ hi
        have rc4 : Rep F.G L H4 (AP (L ++ F.Z) ρ σ (M1 ++ M2 ++ M3) H) d4 v4 := rd4.imp fun b k _ => k.back E3 fun i hi => List.mem_append_right _ hi
        refine ⟨L, _, [d2, d4], .cons rb4 (.cons rc4 .nil), .bool k4, q4, fun z H5 s5 rz _ => ?_⟩
        cases rz
        exact h _ H5 (R4.same s5) ((E3.trans E4).trans (.of_same s5)) (.bl k4) fun z => nomatch z
theorem pe_chainD {op op' : CmpOp} {g g' : PyData → PyData → Option PyData} {fr3 : Bool} (ho : OpR X (compareOp op) (r2 F.G false g)) (ho' : OpR X (compareOp op') (r2 F.G false g')) (hg : ∀ d e w, g d e = some w → ∃ k, w = .bool k) (hg' : ∀ d e w, g' d e = some w → ∃ k, w = .bool k)
    (ha : PE X a (tD F M1 fr1 fa)) (hb : PE X b (tD F M2 fr2 fb)) (hc : PE X c (tD F M3 fr3 fc))
    (hm : lastMarks [op, op'] [b, c] = false := by with_unfolding_all rfl) : PE X (.Compare a [op, op'] [b, c] pos) (tD F [] false (eChain g g' fa fb fc)) := (pe_chain ho ho' ha hb hc hm).imp fun σ H Q q => chain_read q hg hg'
theorem pt_chainD {op op' : CmpOp} {g g' : PyData → PyData → Option PyData} {fr3 : Bool} (ho : OpR X (compareOp op) (r2 F.G false g)) (ho' : OpR X (compareOp op') (r2 F.G false g')) (hg : ∀ d e w, g d e = some w → ∃ k, w = .bool k) (hg' : ∀ d e w, g' d e = some w → ∃ k, w = .bool k)
    (ha : PE X a (tD F M1 fr1 fa)) (hb : PE X b (tD F M2 fr2 fb)) (hc : PE X c (tD F M3 fr3 fc))
    (hm : lastMarks [op, op'] [b, c] = false := by with_unfolding_all rfl) : PT X (.Compare a [op, op'] [b, c] pos) (tDB F (eB (eChain g g' fa fb fc))) := (pt_chain ho ho' ha hb hc hm).imp fun σ H Q q => chain_read (test_read (M := []) (fr := false) q) hg hg'

/-! calls of built-ins -/
theorem args_read {g : List PyData → Option PyData} {σ : L2.St} {H : Hp} {Q : VK} (h : tD F M fr (eArgs g fs) σ H Q) : tCB (rV F.G fr g) (tDs F M fs) σ H Q := by
  obtain ⟨L, AL, ρ, st, R, h⟩ := h
  refine tDs_bind (P := DPost F L AL ρ σ H M fr Q) R h (fun x st' h => h) (fun h => h) fun ds st1 vs H1 R1 E1 rs h => ?_
  exact fin_op R1 E1 h rs
theorem pe_callBD {x : Str} {id : String} {g : List PyData → Option PyData} (hc : CallR X (.builtin id) (rV F.G fr g)) (hg : Gl X x) (hm : X.mg x = none) (hv : bootBuiltins x = some (.builtin id)) (ha : PA X (e :: es) (tDs F M fs)) (hn : x ≠ "__name__" := by decide) (hdb : (x == ("__debug__" : Str)) = false := by decide)
    (he : starEach (e :: es) X.env = (false, eval e X.env) :: starEach es X.env := by rfl) (hpl : (backTo pos (starEach es X.env)).any (·.1) = false := by rfl) : PE X (.Call (.Name x p) (e :: es) [] pos) (tD F M fr (eArgs g fs)) :=
  (pe_callB hc hg hm hv ha hn hdb he hpl).imp fun σ H Q h => args_read h
theorem pe_callTyD {x : Str} {T : String} {g : List PyData → Option PyData} (hc : CallR X (.type T) (rV F.G fr g)) (hg : Gl X x) (hm : X.mg x = none) (hv : bootBuiltins x = some (.type T)) (ha : PA X (e :: es) (tDs F M fs)) (hn : x ≠ "__name__" := by decide) (hdb : (x == ("__debug__" : Str)) = false := by decide)
    (he : starEach (e :: es) X.env = (false, eval e X.env) :: starEach es X.env := by rfl) (hpl : (backTo pos (starEach es X.env)).any (·.1) = false := by rfl) : PE X (.Call (.Name x p) (e :: es) [] pos) (tD F M fr (eArgs g fs)) :=
  (pe_callTy hc hg hm hv ha hn hdb he hpl).imp fun σ H Q h => args_read h
end
end Ev
end

section
set_option maxRecDepth 100000
set_option maxHeartbeats 4000000
namespace Ev
open PySem PySem.Spec PyProof.Rows L2

/-! ### operators by values -/
def addD : PyData → PyData → Option PyData
  | .int i, .int j => some (.int (i + j))
  | .str x, .str y => if x.length + y.length ≤ sizeLine then some (.str (x ++ y)) else none
  | .list xs, .list ys => if xs.length + ys.length ≤ sizeLine then some (.list (xs ++ ys)) else none
  | .tuple xs, .tuple ys => if xs.length + ys.length ≤ sizeLine then some (.tuple (xs ++ ys)) else none
  | _, _ => none
def subD : PyData → PyData → Option PyData
  | .int i, .int j => some (.int (i - j))
  | _, _ => none
@[irreducible] def bitsOk (i j : Int) : Bool := decide (Builtin.Int.intBits i + Builtin.Int.intBits j ≤ 134217728)
def mulD : PyData → PyData → Option PyData
  | .int i, .int j => if bitsOk i j = true then some (.int (i * j)) else none
  | .list xs, .int k => if k.natAbs ≤ 1000000 ∧ xs.length * k.toNat ≤ sizeLine then some (.list (List.replicate k.toNat xs).flatten) else none
  | _, _ => none
def divD : PyData → PyData → Option PyData
  | .int i, .int j => if 0 < j ∧ j.natAbs < 1073741824 then some (.int (i / j)) else none
  | _, _ => none
def modD : PyData → PyData → Option PyData
  | .int i, .int j => if 0 < j then some (.int (i % j)) else none
  | _, _ => none
def powD : PyData → PyData → Option PyData
  | .int i, .int j => if 0 ≤ j ∧ j.natAbs ≤ 1000000 ∧ i.natAbs < 2 ^ 64 then some (.int (i ^ j.toNat)) else none
  | _, _ => none
def ltD : PyData → PyData → Option PyData
  | .int i, .int j => some (.bool (decide (i < j)))
  | _, _ => none
def leD : PyData → PyData → Option PyData
  | .int i, .int j => some (.bool (decide (i ≤ j)))
  | _, _ => none
def gtD : PyData → PyData → Option PyData
  | .int i, .int j => some (.bool (decide (j < i)))
  | _, _ => none
def geD : PyData → PyData → Option PyData
  | .int i, .int j => some (.bool (decide (j ≤ i)))
  | _, _ => none
def okEq (d e : PyData) : Bool := d.plain && e.plain && decide (min d.depth e.depth ≤ 64)
def eqD (d e : PyData) : Option PyData := if okEq d e = true then some (.bool (PyData.eqv d e)) else none
def neD (d e : PyData) : Option PyData := if okEq d e = true then some (.bool (!PyData.eqv d e)) else none
def isNo : PyData → Bool
  | .none => true
  | _ => false
def isD (d e : PyData) : Option PyData := match e with
  | .none => some (.bool (isNo d))
  | .bool b => (match d with | .bool a => some (.bool (decide (a = b))) | _ => none)
  | _ => none
def isnD (d e : PyData) : Option PyData := match e with
  | .none => some (.bool (!isNo d))
  | .bool b => (match d with | .bool a => some (.bool (!decide (a = b))) | _ => none)
  | _ => none
def okIn (x : PyData) (ys : List PyData) : Bool := x.plain && PyData.plainAll ys && decide (min (PyData.depthAll ys) x.depth ≤ 64)
def hasD (x : PyData) (ys : List PyData) : Bool := ys.any fun y => PyData.eqv y x
def subS (s t : Str) : Bool := !(Builtin.Str.occurrences t s 0 t.length 1).isEmpty
def inD (x c : PyData) : Option Bool := match c with
  | .list ys => if okIn x ys = true then some (hasD x ys) else none
  | .tuple ys => if okIn x ys = true then some (hasD x ys) else none
  | .str t => (match x with | .str s => some (subS s t) | _ => none)
  | _ => none
def isInD (x c : PyData) : Option PyData := (inD x c).map .bool
def notInD (x c : PyData) : Option PyData := (inD x c).map fun b => .bool (!b)
def negD : PyData → Option PyData
  | .int i => some (.int (-i))
  | _ => none

theorem _root_.L2.OpR.imp {X : Cx} {f : Value → Value → Sem Value} {r r' : R2} (h : OpR X f r) (k : ∀ x y H Q, r' x y H Q → r x y H Q) : OpR X f r' := fun pins s σ H x y v u Q I rx ry q => h pins s σ H x y v u Q I rx ry (k _ _ _ _ q)
theorem _root_.L2.UnR.imp {X : Cx} {f : Value → Sem Value} {r r' : V → Hp → VK → Prop} (h : UnR X f r) (k : ∀ x H Q, r' x H Q → r x H Q) : UnR X f r' := fun pins s σ H x v Q I rx q => h pins s σ H x v Q I rx (k _ _ _ q)
theorem _root_.L2.CallR.imp {X : Cx} {f : Value} {r r' : List V → Hp → VK → Prop} (h : CallR X f r) (k : ∀ x H Q, r' x H Q → r x H Q) : CallR X f r' := fun pins s σ H x v Q I rx q => h pins s σ H x v Q I rx (k _ _ _ q)

section
variable {G : Gd} {L : List Addr} {H : Hp} {A : Addr → Prop} {x y : V} {Q : VK} {fr : Bool}
/-- what r2 tells -/
theorem r2_ex {g : PyData → PyData → Option PyData} (h : r2 G fr g x y H Q) : ∃ L A d e w, Rep G L H A d x ∧ Rep G L H A e y ∧ g d e = some w ∧
    ∀ v H', Same H H' → Rep G L H' (fun b => A b ∨ H b = none) w v → Fresh G L H H' (fun b => A b ∨ H b = none) fr w v → Q v H' := by
  obtain ⟨L, A, ds, rs, w, hw, k⟩ := h
  cases rs with
  | cons r1 rs =>
    cases rs with
    | cons r2 rs =>
      cases rs
      exact ⟨L, A, _, _, w, r1, r2, hw, k⟩
theorem r1_ex {g : PyData → Option PyData} (h : r1 G fr g x H Q) : ∃ L A d w, Rep G L H A d x ∧ g d = some w ∧
    ∀ v H', Same H H' → Rep G L H' (fun b => A b ∨ H b = none) w v → Fresh G L H H' (fun b => A b ∨ H b = none) fr w v → Q v H' := by
  obtain ⟨L, A, ds, rs, w, hw, k⟩ := h
  cases rs with
  | cons r1 rs =>
    cases rs
    exact ⟨L, A, _, w, r1, hw, k⟩
/-- a flat answer -/
theorem k_int {i : Int} (k : ∀ v H', Same H H' → Rep G L H' (fun b => A b ∨ H b = none) (.int i) v → Fresh G L H H' (fun b => A b ∨ H b = none) fr (.int i) v → Q v H') : Q (.int i) H := k _ H (Same.refl H) (.int i) fun _ z => nomatch z
theorem k_bl {i : Bool} (k : ∀ v H', Same H H' → Rep G L H' (fun b => A b ∨ H b = none) (.bool i) v → Fresh G L H H' (fun b => A b ∨ H b = none) fr (.bool i) v → Q v H') : Q (.bl i) H := k _ H (Same.refl H) (.bl i) fun _ z => nomatch z
theorem k_str {i : Str} (k : ∀ v H', Same H H' → Rep G L H' (fun b => A b ∨ H b = none) (.str i) v → Fresh G L H H' (fun b => A b ∨ H b = none) fr (.str i) v → Q v H') : Q (.str i) H := k _ H (Same.refl H) (.str i) fun _ z => nomatch z
/-- a new list -/
theorem k_lst {ds : List PyData} {vs : List V} {p : Addr} (k : ∀ v H', Same H H' → Rep G L H' (fun b => A b ∨ H b = none) (.list ds) v → Fresh G L H H' (fun b => A b ∨ H b = none) fr (.list ds) v → Q v H') (hp : H p = none) (hl : vs.length ≤ sizeLine) (rs : Reps G L H A ds vs) : Q (.ref p) (upd H p (.lst vs)) := by
  have rs' : Reps G L (upd H p (.lst vs)) A ds vs := rs.keep fun b o hb _ _ => same_upd hp b o hb
  refine k _ _ (same_upd hp) (.lst ⟨upd_same, .inr hp⟩ hl (rs'.imp fun b z _ => .inl z)) fun _ _ => ⟨p, _, rfl, hp, upd_same, .lst hl ?_⟩
  refine (rs.imp (A' := fun b => (A b ∨ H b = none) ∧ b ≠ p) fun b z hb => ⟨.inl z, fun e => hb (by rw [e]; exact hp)⟩).keep fun b o hb _ _ => same_upd hp b o hb
theorem k_tup {ds : List PyData} {vs : List V} {p : Addr} (k : ∀ v H', Same H H' → Rep G L H' (fun b => A b ∨ H b = none) (.tuple ds) v → Fresh G L H H' (fun b => A b ∨ H b = none) fr (.tuple ds) v → Q v H') (hp : H p = none) (hl : vs.length ≤ sizeLine) (rs : Reps G L H A ds vs) {o : Obj} (ho : o.dict = none) : Q (.ref p) (upd H p (.frz o (.tup vs))) := by
  have rs' : Reps G L (upd H p (.frz o (.tup vs))) A ds vs := rs.keep fun b o hb _ _ => same_upd hp b o hb
  exact k _ _ (same_upd hp) (.tup (.inl ⟨o, upd_same, ho⟩) hl (rs'.imp fun b z _ => .inl z)) fun _ z => nomatch z
/-- a value that was there -/
theorem k_old {d : PyData} {v : V} (k : ∀ v H', Same H H' → Rep G L H' (fun b => A b ∨ H b = none) d v → Fresh G L H H' (fun b => A b ∨ H b = none) fr d v → Q v H') (r : Rep G L H A d v) (hm : fr = true → mutD d = false) : Q v H :=
  k v H (Same.refl H) (r.imp fun b z _ => .inl z) fun z q => by
    rw [hm z] at q
    cases q
end

section
variable {X : Cx} {pins : List (Addr × Obj)} {σ : L2.St} {H : Hp} {s : Shared} {G : Gd} {L : List Addr} {A : Addr → Prop} {a : Addr} {vs : List V}
theorem _root_.L2.Inv.lstR (I : Inv X pins σ H s) (h : LL H A a vs) : vs.length ≤ sizeLine ∧ ∃ (its : List Value) (n : Nat), Vals vs its ∧ vs.length = its.length ∧ s.heap.get? a = some { cls := .type "list", data := .seq its.toArray n } := by
  obtain ⟨z, its, n, r, e⟩ := h.rd.ok I.hok
  exact ⟨z, its, n, r, r.length, e⟩
theorem Reps.rep {ds : List PyData} {vs : List V} (r : Reps G L H A ds vs) : ∀ n : Nat, Reps G L H A (List.replicate n ds).flatten (List.replicate n vs).flatten
  | 0 => .nil
  | n + 1 => by
    rw [List.replicate_succ, List.replicate_succ, List.flatten_cons, List.flatten_cons]
    exact r.append (r.rep n)
mutual
theorem Rep.dp : ∀ {d : PyData} {v : V}, Rep G L H A d v → d.plain = true → Dp G.K H v d
  | _, _, .non, _ => .non
  | _, _, .bl b, _ => .bl b
  | _, _, .int i, _ => .int i
  | _, _, .str x, _ => .str x
  | _, _, .tup h n r, z => .tup h.sq (Reps.dp r (by simpa [PyData.plain] using z))
  | _, _, .lst h n r, z => .lst h.sq (Reps.dp r (by simpa [PyData.plain] using z))
  | _, _, .lea h r, z => by simp [PyData.plain] at z
  | _, _, .fn n, z => by simp [PyData.plain] at z
  | _, _, .loc h, z => by simp [PyData.plain] at z
  | _, _, .frz h n r, z => by simp [PyData.plain] at z
  | _, _, .dic h z n r, q => by simp [PyData.plain] at q
  | _, _, .dit h z n o r, q => by simp [PyData.plain] at q
theorem Reps.dp : ∀ {ds : List PyData} {vs : List V}, Reps G L H A ds vs → PyData.plainAll ds = true → DpAll G.K H vs ds
  | _, _, .nil, _ => .nil
  | _, _, .cons h r, z => by
    simp only [PyData.plainAll, Bool.and_eq_true] at z
    exact .cons (Rep.dp h z.1) (Reps.dp r z.2)
end
theorem Rep.reads (I : Inv X pins σ H s) (hK : G.K = X.K) {d : PyData} {v : V} {u : Value} (r : Rep G L H A d v) (hp : d.plain = true) (rv : RelV v u) : ∃ as, Reads s.heap u d as :=
  Dp.reads I d v u (by rw [← hK]; exact r.dp hp) rv
theorem Reps.reads (I : Inv X pins σ H s) (hK : G.K = X.K) {d : List PyData} {v : List V} {u : List Value} (r : Reps G L H A d v) (hp : PyData.plainAll d = true) (rv : Vals v u) : ∃ as, ReadsAll s.heap u d as :=
  Dp.readsAll I d v u (by rw [← hK]; exact r.dp hp) rv
end

section
variable {X : Cx} {G : Gd} {fr : Bool}
theorem op_addD (hK : G.K = X.K) : OpR X (binaryOp .Add) (r2 G true addD) := by
  intro pins s σ H x y v u Q I rx ry h
  obtain ⟨L, A, d, e, w, r1, r2, hw, k⟩ := r2_ex h
  unfold addD at hw
  split at hw
  · cases hw
    cases r1; cases r2
    exact op_add pins s σ H _ _ v u Q I rx ry ⟨_, _, rfl, rfl, k_int k⟩
  · split at hw
    · cases hw
      cases r1; cases r2
      exact op_add_str pins s σ H _ _ v u Q I rx ry ⟨_, _, rfl, rfl, by assumption, k_str k⟩
    · cases hw
  · split at hw
    · rename_i hz
      cases hw
      cases r1 with
      | lst h1 n1 q1 =>
        cases r2 with
        | lst h2 n2 q2 =>
          rename_i xs ys aa vs1 bb vs2
          have hz' : vs1.length + vs2.length ≤ sizeLine := by rw [← q1.length, ← q2.length]; exact hz
          exact op_cat pins s σ H _ _ v u Q I rx ry ⟨aa, bb, vs1, vs2, rfl, rfl, h1.1, h2.1, hz', fun p hp => k_lst k hp (by rw [List.length_append]; exact hz') (q1.append q2)⟩
    · cases hw
  · split at hw
    · rename_i hz
      cases hw
      cases r1 with
      | tup h1 n1 q1 =>
        cases r2 with
        | tup h2 n2 q2 =>
          rename_i xs ys aa vs1 bb vs2
          have hz' : vs1.length + vs2.length ≤ sizeLine := by rw [← q1.length, ← q2.length]; exact hz
          cases rx
          cases ry
          obtain ⟨its1, rv1, p1, _⟩ := I.tuple (by rw [← hK]; exact h1.sq)
          obtain ⟨its2, rv2, p2, _⟩ := I.tuple (by rw [← hK]; exact h2.sq)
          have old2 : Rep G L H A (.tuple ys) (.ref bb) := .tup h2 n2 q2
          by_cases hx : vs1 = []
          · subst hx
            cases q1
            cases rv1
            exact L2.cat_tup0 p1 p2 ⟨.ref bb, H, I, rfl, k_old k old2 fun _ => rfl⟩
          · refine HT.cat_tup p1 p2 (fun z => hx (rv1.nil_iff.mp z)) (fun z => ⟨.ref aa, H, I, rfl, ?_⟩) (fun z => ?_) (by rw [← rv1.length, ← rv2.length]; exact hz')
            · have e := rv2.nil_iff.mp z
              subst e
              cases q2
              refine k_old k ?_ fun _ => rfl
              rw [List.append_nil]
              exact .tup h1 n1 q1
            · have hl : (vs1 ++ vs2).length ≤ sizeLine := by rw [List.length_append]; exact hz'
              exact ⟨.ref s.heap.objs.size, _, I.tnew (t' := s.toks) (rv1.append rv2) hl, rfl, k_tup k I.fresh hl (q1.append q2) rfl⟩
    · cases hw
  · cases hw
theorem op_subD : OpR X (binaryOp .Sub) (r2 G true subD) := by
  intro pins s σ H x y v u Q I rx ry h
  obtain ⟨L, A, d, e, w, r1, r2, hw, k⟩ := r2_ex h
  unfold subD at hw
  split at hw
  · cases hw
    cases r1; cases r2
    exact op_sub pins s σ H _ _ v u Q I rx ry ⟨_, _, rfl, rfl, k_int k⟩
  · cases hw
theorem op_divD : OpR X (binaryOp .FloorDiv) (r2 G true divD) := by
  intro pins s σ H x y v u Q I rx ry h
  obtain ⟨L, A, d, e, w, r1, r2, hw, k⟩ := r2_ex h
  unfold divD at hw
  split at hw
  · split at hw
    · cases hw
      cases r1; cases r2
      exact op_fdiv pins s σ H _ _ v u Q I rx ry ⟨_, _, rfl, rfl, (by unfold CDiv; omega), k_int k⟩
    · cases hw
  · cases hw
theorem op_modD : OpR X (binaryOp .Mod) (r2 G true modD) := by
  intro pins s σ H x y v u Q I rx ry h
  obtain ⟨L, A, d, e, w, r1, r2, hw, k⟩ := r2_ex h
  unfold modD at hw
  split at hw
  · split at hw
    · cases hw
      cases r1; cases r2
      exact op_mod pins s σ H _ _ v u Q I rx ry ⟨_, _, rfl, rfl, by assumption, k_int k⟩
    · cases hw
  · cases hw
theorem op_powD : OpR X (binaryOp .Pow) (r2 G true powD) := by
  intro pins s σ H x y v u Q I rx ry h
  obtain ⟨L, A, d, e, w, r1, r2, hw, k⟩ := r2_ex h
  unfold powD at hw
  split at hw
  · split at hw
    · cases hw
      cases r1; cases r2
      exact op_pow pins s σ H _ _ v u Q I rx ry ⟨_, _, rfl, rfl, ⟨by omega, by omega, (by rename_i hh; exact hh.2.2)⟩, k_int k⟩
    · cases hw
  · cases hw
theorem op_mulD : OpR X (binaryOp .Mult) (r2 G true mulD) := by
  intro pins s σ H x y v u Q I rx ry h
  obtain ⟨L, A, d, e, w, r1, r2, hw, k⟩ := r2_ex h
  unfold mulD at hw
  split at hw
  · split at hw
    · rename_i hb
      cases hw
      cases r1; cases r2
      have hb := of_decide_eq_true (by unfold bitsOk at hb; exact hb)
      exact op_mulX pins s σ H _ _ v u Q I rx ry ⟨_, _, rfl, rfl, (by unfold CMulX; omega), k_int k⟩
    · cases hw
  · split at hw
    · rename_i hz
      obtain ⟨hz0, hz2⟩ := hz
      cases hw
      cases r2
      cases r1 with
      | lst h1 n1 q1 =>
        rename_i j aa vs1
        refine op_rep pins s σ H _ _ v u Q I rx ry ⟨aa, j, vs1, rfl, rfl, h1.1, by omega, by omega, by rw [← q1.length]; exact hz2, fun p hp => k_lst k hp ?_ (q1.rep _)⟩
        rw [PyProof.Rows.lm_len_rep_flat, Nat.mul_comm, ← q1.length]
        exact hz2
    · cases hw
  · cases hw
theorem op_ltD : OpR X (compareOp .Lt) (r2 G false ltD) := by
  intro pins s σ H x y v u Q I rx ry h
  obtain ⟨L, A, d, e, w, r1, r2, hw, k⟩ := r2_ex h
  unfold ltD at hw
  split at hw
  · cases hw
    cases r1; cases r2
    exact op_lt pins s σ H _ _ v u Q I rx ry ⟨_, _, rfl, rfl, k_bl k⟩
  · cases hw
theorem op_leD : OpR X (compareOp .LtE) (r2 G false leD) := by
  intro pins s σ H x y v u Q I rx ry h
  obtain ⟨L, A, d, e, w, r1, r2, hw, k⟩ := r2_ex h
  unfold leD at hw
  split at hw
  · cases hw
    cases r1; cases r2
    exact op_le pins s σ H _ _ v u Q I rx ry ⟨_, _, rfl, rfl, k_bl k⟩
  · cases hw
theorem op_gtD : OpR X (compareOp .Gt) (r2 G false gtD) := by
  intro pins s σ H x y v u Q I rx ry h
  obtain ⟨L, A, d, e, w, r1, r2, hw, k⟩ := r2_ex h
  unfold gtD at hw
  split at hw
  · cases hw
    cases r1; cases r2
    exact op_gt pins s σ H _ _ v u Q I rx ry ⟨_, _, rfl, rfl, k_bl k⟩
  · cases hw
theorem op_geD : OpR X (compareOp .GtE) (r2 G false geD) := by
  intro pins s σ H x y v u Q I rx ry h
  obtain ⟨L, A, d, e, w, r1, r2, hw, k⟩ := r2_ex h
  unfold geD at hw
  split at hw
  · cases hw
    cases r1; cases r2
    exact op_ge pins s σ H _ _ v u Q I rx ry ⟨_, _, rfl, rfl, k_bl k⟩
  · cases hw
theorem op_eqDD (hK : G.K = X.K) (hu : X.A.units + 64 < cLine) : OpR X (compareOp .Eq) (r2 G false eqD) := by
  intro pins s σ H x y v u Q I rx ry h
  obtain ⟨L, A, d, e, w, r1, r2, hw, k⟩ := r2_ex h
  unfold eqD at hw
  split at hw
  · rename_i ho
    cases hw
    simp only [okEq, Bool.and_eq_true, decide_eq_true_eq] at ho
    obtain ⟨as, q1⟩ := r1.reads I hK ho.1.1 rx
    obtain ⟨bs, q2⟩ := r2.reads I hK ho.1.2 ry
    exact SeqAt.eq_plain q1 q2 ho.1.1 ho.1.2 (by have := ho.2; omega) ⟨.bl _, H, I, rfl, k_bl k⟩
  · cases hw
theorem op_neDD (hK : G.K = X.K) (hu : X.A.units + 64 < cLine) : OpR X (compareOp .NotEq) (r2 G false neD) := by
  intro pins s σ H x y v u Q I rx ry h
  obtain ⟨L, A, d, e, w, r1, r2, hw, k⟩ := r2_ex h
  unfold neD at hw
  split at hw
  · rename_i ho
    cases hw
    simp only [okEq, Bool.and_eq_true, decide_eq_true_eq] at ho
    obtain ⟨as, q1⟩ := r1.reads I hK ho.1.1 rx
    obtain ⟨bs, q2⟩ := r2.reads I hK ho.1.2 ry
    exact SeqAt.ne_plain q1 q2 ho.1.1 ho.1.2 (by have := ho.2; omega) ⟨.bl _, H, I, rfl, k_bl k⟩
  · cases hw
theorem isNo_iff {L : List Addr} {H : Hp} {A : Addr → Prop} {d : PyData} {x : V} (r : Rep G L H A d x) : decide (x = .non) = isNo d := by
  cases r <;> simp [isNo]
theorem op_isD : OpR X (compareOp .Is) (r2 G false isD) := by
  intro pins s σ H x y v u Q I rx ry h
  obtain ⟨L, A, d, e, w, r1, r2, hw, k⟩ := r2_ex h
  unfold isD at hw
  split at hw
  · cases hw
    cases r2
    refine op_isN pins s σ H _ _ v u Q I rx ry ⟨rfl, ?_⟩
    rw [isNo_iff r1]
    exact k_bl k
  · split at hw
    · cases hw
      cases r1; cases r2
      exact op_isBl pins s σ H _ _ v u Q I rx ry ⟨_, _, rfl, rfl, k_bl k⟩
    · cases hw
  · cases hw
theorem op_isnD : OpR X (compareOp .IsNot) (r2 G false isnD) := by
  intro pins s σ H x y v u Q I rx ry h
  obtain ⟨L, A, d, e, w, r1, r2, hw, k⟩ := r2_ex h
  unfold isnD at hw
  split at hw
  · cases hw
    cases r2
    refine op_notN pins s σ H _ _ v u Q I rx ry ⟨rfl, ?_⟩
    rw [isNo_iff r1]
    exact k_bl k
  · split at hw
    · cases hw
      cases r1; cases r2
      exact op_notBl pins s σ H _ _ v u Q I rx ry ⟨_, _, rfl, rfl, k_bl k⟩
    · cases hw
  · cases hw
theorem in_seq {ys : List PyData} {H : Hp} {pins : List (Addr × Obj)} {σ : L2.St} {s : Shared} {L : List Addr} {A : Addr → Prop} {d : PyData} {x : V} {v : Value} {vs : List V} {its : List Value} (hK : G.K = X.K) (hu : X.A.units + 65 < cLine) (I : Inv X pins σ H s) (r1 : Rep G L H A d x) (rx : RelV x v) (ho : okIn d ys = true) (rs : Reps G L H A ys vs) (rv : Vals vs its) :
    (∀ w, w ∈ its.toArray → SeqAt.EqAt X.A.in1 s w v (PyData.eqv (SeqAt.readOf s.heap w) d)) ∧ its.toArray.any (fun w => PyData.eqv (SeqAt.readOf s.heap w) d) = hasD d ys := by
  simp only [okIn, Bool.and_eq_true, decide_eq_true_eq] at ho
  obtain ⟨as, q1⟩ := r1.reads I hK ho.1.1 rx
  obtain ⟨bs, q2⟩ := rs.reads I hK ho.1.2 rv
  exact ⟨SeqAt.items_plain (vs := its.toArray) q2 q1 ho.1.2 ho.1.1 (by have := ho.2; omega), SeqAt.any_plain (vs := its.toArray) q2 ho.1.2⟩
theorem op_inD (hK : G.K = X.K) (hu : X.A.units + 65 < cLine) : OpR X (compareOp .In) (r2 G false isInD) := by
  intro pins s σ H x y v u Q I rx ry h
  obtain ⟨L, A, d, e, w, r1, r2, hw, k⟩ := r2_ex h
  unfold isInD inD at hw
  split at hw
  · split at hw
    · rename_i ho
      cases hw
      cases r2 with
      | lst h2 n2 q2 =>
        cases ry
        obtain ⟨its, r, pl, hz⟩ := I.list h2.sq
        obtain ⟨z1, z2⟩ := in_seq hK hu I r1 rx ho q2 r
        exact SeqAt.in_listAt _ pl.isList z1 ⟨.bl _, H, I, rfl, by rw [z2]; exact k_bl k⟩
    · cases hw
  · split at hw
    · rename_i ho
      cases hw
      cases r2 with
      | tup h2 n2 q2 =>
        cases ry
        obtain ⟨its, r, pl, hz⟩ := I.tuple (by rw [← hK]; exact h2.sq)
        obtain ⟨z1, z2⟩ := in_seq hK hu I r1 rx ho q2 r
        exact SeqAt.in_tupleAt _ pl z1 ⟨.bl _, H, I, rfl, by rw [z2]; exact k_bl k⟩
    · cases hw
  · split at hw
    · cases hw
      cases r1; cases r2
      exact op_in_str pins s σ H _ _ v u Q I rx ry ⟨_, _, rfl, rfl, k_bl k⟩
    · cases hw
  · cases hw
theorem op_notInDD (hK : G.K = X.K) (hu : X.A.units + 65 < cLine) : OpR X (compareOp .NotIn) (r2 G false notInD) := by
  intro pins s σ H x y v u Q I rx ry h
  obtain ⟨L, A, d, e, w, r1, r2, hw, k⟩ := r2_ex h
  unfold notInD inD at hw
  split at hw
  · split at hw
    · rename_i ho
      cases hw
      cases r2 with
      | lst h2 n2 q2 =>
        cases ry
        obtain ⟨its, r, pl, hz⟩ := I.list h2.sq
        obtain ⟨z1, z2⟩ := in_seq hK hu I r1 rx ho q2 r
        exact SeqAt.notIn_listAt _ pl.isList z1 ⟨.bl _, H, I, rfl, by rw [z2]; exact k_bl k⟩
    · cases hw
  · split at hw
    · rename_i ho
      cases hw
      cases r2 with
      | tup h2 n2 q2 =>
        cases ry
        obtain ⟨its, r, pl, hz⟩ := I.tuple (by rw [← hK]; exact h2.sq)
        obtain ⟨z1, z2⟩ := in_seq hK hu I r1 rx ho q2 r
        exact SeqAt.notIn_tupleAt _ pl z1 ⟨.bl _, H, I, rfl, by rw [z2]; exact k_bl k⟩
    · cases hw
  · split at hw
    · cases hw
      cases r1; cases r2
      exact op_notIn_str pins s σ H _ _ v u Q I rx ry ⟨_, _, rfl, rfl, k_bl k⟩
    · cases hw
  · cases hw
theorem un_negD : UnR X (unaryOp .USub) (r1 G false negD) := by
  intro pins s σ H x v Q I rx h
  obtain ⟨L, A, d, w, q1, hw, k⟩ := r1_ex h
  unfold negD at hw
  split at hw
  · cases hw
    cases q1
    exact un_neg pins s σ H _ v Q I rx ⟨_, rfl, k_int k⟩
  · cases hw
theorem boolD {g : PyData → PyData → Option PyData} (h : g = ltD ∨ g = leD ∨ g = gtD ∨ g = geD ∨ g = eqD ∨ g = neD ∨ g = isInD ∨ g = notInD) : ∀ d e w, g d e = some w → ∃ k, w = .bool k := by
  intro d e w hw
  rcases h with rfl | rfl | rfl | rfl | rfl | rfl | rfl | rfl
  · unfold ltD at hw; split at hw <;> cases hw; exact ⟨_, rfl⟩
  · unfold leD at hw; split at hw <;> cases hw; exact ⟨_, rfl⟩
  · unfold gtD at hw; split at hw <;> cases hw; exact ⟨_, rfl⟩
  · unfold geD at hw; split at hw <;> cases hw; exact ⟨_, rfl⟩
  · unfold eqD at hw; split at hw <;> cases hw; exact ⟨_, rfl⟩
  · unfold neD at hw; split at hw <;> cases hw; exact ⟨_, rfl⟩
  · unfold isInD at hw
    cases e : inD d e <;> rw [e] at hw <;> cases hw
    exact ⟨_, rfl⟩
  · unfold notInD at hw
    cases e : inD d e <;> rw [e] at hw <;> cases hw
    exact ⟨_, rfl⟩
end
end Ev
end

section
set_option maxRecDepth 100000
set_option maxHeartbeats 4000000
namespace Ev
open PySem PySem.Spec PyProof.Rows L2

/-! ### built-in functions by values -/
def lenD : List PyData → Option PyData
  | [.list xs] => some (.int xs.length)
  | [.tuple xs] => some (.int xs.length)
  | [.str x] => if x.length ≤ sizeLine then some (.int x.length) else none
  | _ => none
def listD : List PyData → Option PyData
  | [.list xs] => some (.list xs)
  | [.tuple xs] => some (.list xs)
  | _ => none
def tupleD : List PyData → Option PyData
  | [.list xs] => some (.tuple xs)
  | [.tuple xs] => some (.tuple xs)
  | _ => none
def absD : List PyData → Option PyData
  | [.int i] => some (.int (if i < 0 then -i else i))
  | _ => none
def max2D : List PyData → Option PyData
  | [.int i, .int j] => some (.int (if j > i then j else i))
  | _ => none
def min2D : List PyData → Option PyData
  | [.int i, .int j] => some (.int (if j < i then j else i))
  | _ => none
def intD : List PyData → Option PyData
  | [.int i] => some (.int i)
  | [.bool b] => some (.int (if b then 1 else 0))
  | _ => none
def strD : List PyData → Option PyData
  | [.int i] => if i.natAbs.log2 < 1920 then some (.str (toString i)) else none
  | _ => none
/-- a list of ints, of truths -/
def asInts : List PyData → Option (List Int)
  | [] => some []
  | .int i :: r => (asInts r).map (i :: ·)
  | _ => none
def asBools : List PyData → Option (List Bool)
  | [] => some []
  | .bool i :: r => (asBools r).map (i :: ·)
  | _ => none
def sumD : List PyData → Option PyData
  | [.list xs] => (asInts xs).map fun ns => .int ns.sum
  | _ => none
def allD : List PyData → Option PyData
  | [.list xs] => (asBools xs).map fun bs => .bool (bs.all id)
  | _ => none
def anyD : List PyData → Option PyData
  | [.list xs] => (asBools xs).map fun bs => .bool (bs.any id)
  | _ => none
def maxI : List Int → Option Int
  | [] => none
  | i :: r => some (r.foldl max i)
def minI : List Int → Option Int
  | [] => none
  | i :: r => some (r.foldl min i)
def maxLD : List PyData → Option PyData
  | [.list xs] => ((asInts xs).bind maxI).map .int
  | _ => none
def minLD : List PyData → Option PyData
  | [.list xs] => ((asInts xs).bind minI).map .int
  | _ => none

section
variable {G : Gd} {L : List Addr} {H : Hp} {A : Addr → Prop} {xs : List V} {Q : VK} {fr : Bool}
theorem rv_ex {g : List PyData → Option PyData} (h : rV G fr g xs H Q) : ∃ L A ds w, Reps G L H A ds xs ∧ g ds = some w ∧
    ∀ v H', Same H H' → Rep G L H' (fun b => A b ∨ H b = none) w v → Fresh G L H H' (fun b => A b ∨ H b = none) fr w v → Q v H' := by
  obtain ⟨L, A, ds, rs, w, hw, k⟩ := h
  exact ⟨L, A, ds, w, rs, hw, k⟩
theorem reps1 {d : PyData} (r : Reps G L H A [d] xs) : ∃ x, xs = [x] ∧ Rep G L H A d x := by
  cases r with
  | cons r t =>
    cases t
    exact ⟨_, rfl, r⟩
theorem reps2 {d e : PyData} (r : Reps G L H A [d, e] xs) : ∃ x y, xs = [x, y] ∧ Rep G L H A d x ∧ Rep G L H A e y := by
  cases r with
  | cons r t =>
    cases t with
    | cons r2 t2 =>
      cases t2
      exact ⟨_, _, rfl, r, r2⟩
theorem asInts_map : ∀ {xs : List PyData} {ns : List Int}, asInts xs = some ns → xs = ns.map .int
  | [], ns, h => by cases h; rfl
  | .int i :: r, ns, h => by
    cases e : asInts r with
    | none => simp [asInts, e] at h
    | some ms =>
      simp [asInts, e] at h
      subst h
      rw [List.map_cons, asInts_map e]
  | .none :: r, ns, h => by simp [asInts] at h
  | .bool _ :: r, ns, h => by simp [asInts] at h
  | .str _ :: r, ns, h => by simp [asInts] at h
  | .list _ :: r, ns, h => by simp [asInts] at h
  | .tuple _ :: r, ns, h => by simp [asInts] at h
  | .dict _ :: r, ns, h => by simp [asInts] at h
theorem asBools_map : ∀ {xs : List PyData} {ns : List Bool}, asBools xs = some ns → xs = ns.map .bool
  | [], ns, h => by cases h; rfl
  | .bool i :: r, ns, h => by
    cases e : asBools r with
    | none => simp [asBools, e] at h
    | some ms =>
      simp [asBools, e] at h
      subst h
      rw [List.map_cons, asBools_map e]
  | .none :: r, ns, h => by simp [asBools] at h
  | .int _ :: r, ns, h => by simp [asBools] at h
  | .str _ :: r, ns, h => by simp [asBools] at h
  | .list _ :: r, ns, h => by simp [asBools] at h
  | .tuple _ :: r, ns, h => by simp [asBools] at h
  | .dict _ :: r, ns, h => by simp [asBools] at h
theorem asInts_of : ∀ ns : List Int, asInts (ns.map .int) = some ns
  | [] => rfl
  | n :: r => by simp [asInts, asInts_of r]
theorem asBools_of : ∀ ns : List Bool, asBools (ns.map .bool) = some ns
  | [] => rfl
  | n :: r => by simp [asBools, asBools_of r]
theorem Reps.ints : ∀ {ns : List Int} {vs : List V}, Reps G L H A (ns.map .int) vs → vs = ns.map .int
  | [], _, r => by cases r; rfl
  | n :: ns, _, r => by
    cases r with
    | cons h t =>
      cases h
      rw [Reps.ints t]
      rfl
theorem bools_plain : ∀ bs : List Bool, PyData.plainAll (bs.map .bool) = true
  | [] => rfl
  | b :: r => by
    show (PyData.plain (.bool b) && PyData.plainAll (r.map .bool)) = true
    rw [bools_plain r]
    rfl
theorem maxI_mem : ∀ {ns : List Int} {m : Int}, maxI ns = some m → m ∈ ns ∧ ∀ y, y ∈ ns → y ≤ m
  | [], _, h => by cases h
  | i :: r, m, h => by
    have h : r.foldl max i = m := Option.some.inj h
    subst h
    induction r generalizing i with
    | nil => exact ⟨List.mem_cons_self, fun y hy => by rcases List.mem_cons.mp hy with rfl | hy; exact Int.le_refl _; cases hy⟩
    | cons j r ih =>
      obtain ⟨h1, h2⟩ := ih (i := max i j) rfl
      have hm := h2 _ List.mem_cons_self
      refine ⟨?_, fun y hy => ?_⟩
      · rcases List.mem_cons.mp h1 with e | h1
        · by_cases hij : i ≤ j
          · rw [List.foldl_cons, e, Int.max_eq_right hij]
            exact List.mem_cons_of_mem _ List.mem_cons_self
          · rw [List.foldl_cons, e, Int.max_eq_left (by omega)]
            exact List.mem_cons_self
        · exact List.mem_cons_of_mem _ (List.mem_cons_of_mem _ h1)
      · show y ≤ List.foldl max (max i j) r
        rcases List.mem_cons.mp hy with rfl | hy
        · omega
        · rcases List.mem_cons.mp hy with rfl | hy
          · omega
          · exact h2 y (List.mem_cons_of_mem _ hy)
theorem minI_mem : ∀ {ns : List Int} {m : Int}, minI ns = some m → m ∈ ns ∧ ∀ y, y ∈ ns → m ≤ y
  | [], _, h => by cases h
  | i :: r, m, h => by
    have h : r.foldl min i = m := Option.some.inj h
    subst h
    induction r generalizing i with
    | nil => exact ⟨List.mem_cons_self, fun y hy => by rcases List.mem_cons.mp hy with rfl | hy; exact Int.le_refl _; cases hy⟩
    | cons j r ih =>
      obtain ⟨h1, h2⟩ := ih (i := min i j) rfl
      have hm := h2 _ List.mem_cons_self
      refine ⟨?_, fun y hy => ?_⟩
      · rcases List.mem_cons.mp h1 with e | h1
        · by_cases hij : i ≤ j
          · rw [List.foldl_cons, e, Int.min_eq_left hij]
            exact List.mem_cons_self
          · rw [List.foldl_cons, e, Int.min_eq_right (by omega)]
            exact List.mem_cons_of_mem _ List.mem_cons_self
        · exact List.mem_cons_of_mem _ (List.mem_cons_of_mem _ h1)
      · show List.foldl min (min i j) r ≤ y
        rcases List.mem_cons.mp hy with rfl | hy
        · omega
        · rcases List.mem_cons.mp hy with rfl | hy
          · omega
          · exact h2 y (List.mem_cons_of_mem _ hy)
end

section
variable {X : Cx} {G : Gd}
theorem call_lenD' (hK : G.K = X.K) : CallR X (.builtin "len") (rV G false lenD) := by
  intro pins s σ H xs us Q I rx h
  obtain ⟨L, A, ds, w, rs, hw, k⟩ := rv_ex h
  unfold lenD at hw
  split at hw
  · cases hw
    obtain ⟨x, rfl, r⟩ := reps1 rs
    cases r with
    | lst h1 n1 q1 => exact call_len pins s σ H _ us Q I rx ⟨_, _, rfl, .inl ⟨_, h1.sq, rfl⟩, by rw [← q1.length]; exact k_int k⟩
  · cases hw
    obtain ⟨x, rfl, r⟩ := reps1 rs
    cases r with
    | tup h1 n1 q1 => exact call_len pins s σ H _ us Q I rx ⟨_, _, rfl, .inr ⟨_, by rw [← hK]; exact h1.sq, rfl⟩, by rw [← q1.length]; exact k_int k⟩
  · split at hw
    · cases hw
      obtain ⟨x, rfl, r⟩ := reps1 rs
      cases r
      exact call_len_str pins s σ H _ us Q I rx ⟨_, rfl, by assumption, k_int k⟩
    · cases hw
  · cases hw
theorem call_listD (hK : G.K = X.K) : CallR X (.type "list") (rV G true listD) := by
  intro pins s σ H xs us Q I rx h
  obtain ⟨L, A, ds, w, rs, hw, k⟩ := rv_ex h
  unfold listD at hw
  split at hw
  · cases hw
    obtain ⟨x, rfl, r⟩ := reps1 rs
    cases r with
    | lst h1 n1 q1 => exact call_list_of pins s σ H _ us Q I rx ⟨_, _, rfl, .inl h1.sq, fun l hl => k_lst k hl n1 q1⟩
  · cases hw
    obtain ⟨x, rfl, r⟩ := reps1 rs
    cases r with
    | tup h1 n1 q1 => exact call_list_of pins s σ H _ us Q I rx ⟨_, _, rfl, .inr (by rw [← hK]; exact h1.sq), fun l hl => k_lst k hl n1 q1⟩
  · cases hw
theorem call_tupleD (hK : G.K = X.K) : CallR X (.type "tuple") (rV G false tupleD) := by
  intro pins s σ H xs us Q I rx h
  obtain ⟨L, A, ds, w, rs, hw, k⟩ := rv_ex h
  unfold tupleD at hw
  split at hw
  · cases hw
    obtain ⟨x, rfl, r⟩ := reps1 rs
    cases r with
    | lst h1 n1 q1 =>
      obtain ⟨u, rfl, ru⟩ := vals1 rx
      cases ru
      obtain ⟨its, rv, pl, hz⟩ := I.list h1.sq
      refine call_tuple_list pl.isList (fun h' kp => ?_) (by rw [List.size_toArray, ← rv.length]; exact hz)
      have J : Inv X pins σ H { s with heap := h' } := I.kept (t' := s.toks) kp
      exact ⟨.ref h'.objs.size, _, J.tnew (t' := s.toks) rv hz, rfl, k_tup k J.fresh n1 q1 rfl⟩
  · cases hw
    obtain ⟨x, rfl, r⟩ := reps1 rs
    cases r with
    | tup h1 n1 q1 =>
      refine call_tuple_of pins s σ H _ us Q I rx ⟨_, _, rfl, .inr ⟨(by rw [← hK]; exact h1.sq), k_old k (.tup h1 n1 q1) fun z => nomatch z⟩⟩
  · cases hw
theorem call_absD : CallR X (.builtin "abs") (rV G false absD) := by
  intro pins s σ H xs us Q I rx h
  obtain ⟨L, A, ds, w, rs, hw, k⟩ := rv_ex h
  unfold absD at hw
  split at hw
  · cases hw
    obtain ⟨x, rfl, r⟩ := reps1 rs
    cases r
    exact call_abs pins s σ H _ us Q I rx ⟨_, rfl, k_int k⟩
  · cases hw
theorem call_max2D (hc : X.calm = true) : CallR X (.builtin "max") (rV G false max2D) := by
  intro pins s σ H xs us Q I rx h
  obtain ⟨L, A, ds, w, rs, hw, k⟩ := rv_ex h
  unfold max2D at hw
  split at hw
  · cases hw
    obtain ⟨x, y, rfl, r, r2⟩ := reps2 rs
    cases r; cases r2
    exact call_max2 hc pins s σ H _ us Q I rx ⟨_, _, rfl, k_int k⟩
  · cases hw
theorem call_min2D (hc : X.calm = true) : CallR X (.builtin "min") (rV G false min2D) := by
  intro pins s σ H xs us Q I rx h
  obtain ⟨L, A, ds, w, rs, hw, k⟩ := rv_ex h
  unfold min2D at hw
  split at hw
  · cases hw
    obtain ⟨x, y, rfl, r, r2⟩ := reps2 rs
    cases r; cases r2
    exact call_min2 hc pins s σ H _ us Q I rx ⟨_, _, rfl, k_int k⟩
  · cases hw
theorem call_intD : CallR X (.type "int") (rV G false intD) := by
  intro pins s σ H xs us Q I rx h
  obtain ⟨L, A, ds, w, rs, hw, k⟩ := rv_ex h
  unfold intD at hw
  split at hw
  · cases hw
    obtain ⟨x, rfl, r⟩ := reps1 rs
    cases r
    exact call_int1 pins s σ H _ us Q I rx (.inl ⟨_, rfl, k_int k⟩)
  · cases hw
    obtain ⟨x, rfl, r⟩ := reps1 rs
    cases r
    exact call_int1 pins s σ H _ us Q I rx (.inr ⟨_, rfl, k_int k⟩)
  · cases hw
theorem call_strD : CallR X (.type "str") (rV G false strD) := by
  intro pins s σ H xs us Q I rx h
  obtain ⟨L, A, ds, w, rs, hw, k⟩ := rv_ex h
  unfold strD at hw
  split at hw
  · split at hw
    · cases hw
      obtain ⟨x, rfl, r⟩ := reps1 rs
      cases r
      exact call_str_int pins s σ H _ us Q I rx ⟨_, rfl, by assumption, k_str k⟩
    · cases hw
  · cases hw
theorem call_sumD (hc : X.calm = true) : CallR X (.builtin "sum") (rV G false sumD) := by
  intro pins s σ H xs us Q I rx h
  obtain ⟨L, A, ds, w, rs, hw, k⟩ := rv_ex h
  unfold sumD at hw
  split at hw
  · rename_i ys
    cases e : asInts ys with
    | none => rw [e] at hw; cases hw
    | some ns =>
      rw [e] at hw
      cases hw
      have e := asInts_map e
      subst e
      obtain ⟨x, rfl, r⟩ := reps1 rs
      cases r with
      | lst h1 n1 q1 =>
        have e2 := q1.ints
        subst e2
        exact cr_sum hc pins s σ H _ us Q I rx ⟨_, ns, rfl, h1.sq, k_int k⟩
  · cases hw
theorem call_maxLD (hc : X.calm = true) : CallR X (.builtin "max") (rV G false maxLD) := by
  intro pins s σ H xs us Q I rx h
  obtain ⟨L, A, ds, w, rs, hw, k⟩ := rv_ex h
  unfold maxLD at hw
  split at hw
  · rename_i ys
    cases e : asInts ys with
    | none => rw [e] at hw; cases hw
    | some ns =>
      rw [e] at hw
      cases e3 : maxI ns with
      | none => simp [e3] at hw
      | some m =>
        simp [e3] at hw
        subst hw
        have e := asInts_map e
        subst e
        obtain ⟨x, rfl, r⟩ := reps1 rs
        cases r with
        | lst h1 n1 q1 =>
          have e2 := q1.ints
          subst e2
          obtain ⟨m1, m2⟩ := maxI_mem e3
          refine cr_max hc pins s σ H _ us Q I rx ⟨_, ns, rfl, h1.sq, List.length_pos_of_mem m1, fun m' h2 h3 => ?_⟩
          have em : m' = m := Int.le_antisymm (m2 _ h2) (h3 _ m1)
          rw [em]
          exact k_int k
  · cases hw
theorem call_minLD (hc : X.calm = true) : CallR X (.builtin "min") (rV G false minLD) := by
  intro pins s σ H xs us Q I rx h
  obtain ⟨L, A, ds, w, rs, hw, k⟩ := rv_ex h
  unfold minLD at hw
  split at hw
  · rename_i ys
    cases e : asInts ys with
    | none => rw [e] at hw; cases hw
    | some ns =>
      rw [e] at hw
      cases e3 : minI ns with
      | none => simp [e3] at hw
      | some m =>
        simp [e3] at hw
        subst hw
        have e := asInts_map e
        subst e
        obtain ⟨x, rfl, r⟩ := reps1 rs
        cases r with
        | lst h1 n1 q1 =>
          have e2 := q1.ints
          subst e2
          obtain ⟨m1, m2⟩ := minI_mem e3
          refine cr_min hc pins s σ H _ us Q I rx ⟨_, ns, rfl, h1.sq, List.length_pos_of_mem m1, fun m' h2 h3 => ?_⟩
          have em : m' = m := Int.le_antisymm (h3 _ m1) (m2 _ h2)
          rw [em]
          exact k_int k
  · cases hw
theorem truthy_bools (bs : List Bool) : (bs.map PyData.bool).all PyData.truthy = bs.all id := by
  rw [List.all_map]; rfl
theorem truthy_boolsA (bs : List Bool) : (bs.map PyData.bool).any PyData.truthy = bs.any id := by
  rw [List.any_map]; rfl
theorem call_allD (hK : G.K = X.K) (hc : X.calm = true) : CallR X (.builtin "all") (rV G false allD) := by
  intro pins s σ H xs us Q I rx h
  obtain ⟨L, A, ds, w, rs, hw, k⟩ := rv_ex h
  unfold allD at hw
  split at hw
  · rename_i ys
    cases e : asBools ys with
    | none => rw [e] at hw; cases hw
    | some bs =>
      rw [e] at hw
      cases hw
      have e := asBools_map e
      subst e
      obtain ⟨x, rfl, r⟩ := reps1 rs
      cases r with
      | lst h1 n1 q1 =>
        obtain ⟨u, rfl, ru⟩ := vals1 rx
        cases ru
        obtain ⟨its, rv, pl, hz⟩ := I.list h1.sq
        obtain ⟨as, hr⟩ := q1.reads I hK (bools_plain bs) rv
        refine PySem.W.all_list_data (I.ok.hd hc) pl.isList (vs := its.toArray) hr (bools_plain bs) (fun x hx => ?_) fun h' tk kp => ⟨.bl (bs.all id), H, I.kept kp, by rw [truthy_bools]; rfl, k_bl k⟩
        obtain ⟨b, _, rfl⟩ := List.mem_map.mp hx
        trivial
  · cases hw
theorem call_anyD (hK : G.K = X.K) (hc : X.calm = true) : CallR X (.builtin "any") (rV G false anyD) := by
  intro pins s σ H xs us Q I rx h
  obtain ⟨L, A, ds, w, rs, hw, k⟩ := rv_ex h
  unfold anyD at hw
  split at hw
  · rename_i ys
    cases e : asBools ys with
    | none => rw [e] at hw; cases hw
    | some bs =>
      rw [e] at hw
      cases hw
      have e := asBools_map e
      subst e
      obtain ⟨x, rfl, r⟩ := reps1 rs
      cases r with
      | lst h1 n1 q1 =>
        obtain ⟨u, rfl, ru⟩ := vals1 rx
        cases ru
        obtain ⟨its, rv, pl, hz⟩ := I.list h1.sq
        obtain ⟨as, hr⟩ := q1.reads I hK (bools_plain bs) rv
        refine PySem.W.any_list_data (I.ok.hd hc) pl.isList (vs := its.toArray) hr (bools_plain bs) (fun x hx => ?_) fun h' tk kp => ⟨.bl (bs.any id), H, I.kept kp, by rw [truthy_boolsA]; rfl, k_bl k⟩
        obtain ⟨b, _, rfl⟩ := List.mem_map.mp hx
        trivial
  · cases hw
end
end Ev
end

section
set_option maxRecDepth 100000
set_option maxHeartbeats 4000000
namespace PySem
open Sem (wp)
open AutoSeq1 (wpAny_loadPart')
/-- enumerate(v) of anything that can be walked -/
theorem ev_enumNew {v : Value} {o : Obj} {H : Heap → Prop} (B : Begins v o H) :
    Meets (Builtin.«enumerate.__new__» ⟨[.type "enumerate", v], []⟩) (fun _ R s => H s.heap ∧
      R (.ok (.ret (.ref (s.heap.push o).objs.size))) { s with heap := (s.heap.push o).push { cls := .type "enumerate", data := .fields #[.none, .bool false, .ref s.heap.objs.size, rawInt 0, .none, .none] } }) :=
  .of_wp fun prog w A R s h => by
    obtain ⟨hp, g, d, tk, os⟩ := s
    obtain ⟨h1, h⟩ := h
    have hsub := sub_enumerate
    have step : ∀ {A' : Around} {E : Value → Shared → Prop} {Q : Value → Shared → Prop}, Q (.ref hp.objs.size) ⟨hp.push o, g, d, tk, os⟩ → wpAny (model prog w) A' (pyIter v) Q E ⟨hp, g, d, tk, os⟩ :=
      fun q => B.iter prog w _ _ ⟨hp, g, d, tk, os⟩ _ h1 q
    wp_walk using step
    refine wpAny_stack_any fun st => wpAny_pure ?_
    split
    · rename_i c _ _ _ _ _
      cases (c == Value.type "enumerate") <;> (wp_walk using step; exact ⟨_, rfl, h⟩)
    · wp_walk using step
      exact ⟨_, rfl, h⟩
theorem ev_callEnum {prog : Program} {w : World} {A : Around} {E : Value → Shared → Prop} {s : Shared} {v : Value} {o : Obj} {H : Heap → Prop} {Q : Value → Shared → Prop} (B : Begins v o H) (h1 : H s.heap)
    (h : ∀ h', IsEnum h' (s.heap.objs.size + 1) s.heap.objs.size 0 .none → h'.get? s.heap.objs.size = some o → h'.objs.size = s.heap.objs.size + 2 →
      (∀ b o, s.heap.get? b = some o → h'.get? b = some o) → Q (.ref (s.heap.objs.size + 1)) { s with heap := h' }) :
    wpAny (model prog w) A (call (.type "enumerate") [v]) Q E s := by
  refine callType_new F.called_enumerate (by decide) (F.typeCall_enumerate_1 _) (F.newCall_enumerate_1 _) (fun obj => F.args_object_init_2 obj _) F.entry_enumerate_new (ev_enumNew B) ⟨h1, ?_⟩
  have z : (s.heap.push o).objs.size = s.heap.objs.size + 1 := Heap.size_push ..
  show _ ∧ _
  rw [z]
  have e1 : IsEnum ((s.heap.push o).push { cls := .type "enumerate", data := .fields #[.none, .bool false, .ref s.heap.objs.size, rawInt 0, .none, .none] }) (s.heap.objs.size + 1) s.heap.objs.size 0 .none := by
    have q := Heap.get?_push_size (s.heap.push o) (o := { cls := .type "enumerate", data := .fields #[.none, .bool false, .ref s.heap.objs.size, rawInt 0, .none, .none] }) rfl
    rw [z] at q
    exact q
  exact ⟨⟨_, e1, rfl⟩, h _ e1 (Heap.get?_push_of_some _ (Heap.get?_push_size _ B.free)) (by rw [Heap.size_push, z]) fun b o x => Heap.get?_push_of_some _ (Heap.get?_push_of_some _ x)⟩
end PySem

namespace Ev
open PySem PySem.Spec PyProof.Rows L2

/-! ### lists and tuples alike -/
inductive Kd where
  | l | t
def SqK (k : Kd) (K : PySem.W.Frag) (H : Hp) (a : Addr) (vs : List V) : Prop := match k with
  | .l => SqL K H a vs
  | .t => SqT K H a vs
def IsK (k : Kd) (h : Heap) (a : Addr) (its : Array Value) : Prop := match k with
  | .l => h.IsList a its
  | .t => h.IsTuple a its
def ItK (k : Kd) (h : Heap) (it a : Addr) (i : Nat) : Prop := match k with
  | .l => h.IsListIter it a i
  | .t => h.IsTupleIter it a i
def obK (k : Kd) (a : Addr) : Obj := match k with
  | .l => { cls := .type "list_iterator", data := .fields #[.ref a, .int 0 0] }
  | .t => { cls := .type "tuple_iterator", data := .fields #[.ref a, .int 0 0] }
theorem drawsK {prog : Program} {w : World} {A : Around} (k : Kd) (hh : A.handled = none) (it a : Addr) (hne : a ≠ it) (its : Array Value) :
    Draws prog w A it [it, a] its.size (fun i v => its[i]? = some v) (fun i h => ItK k h it a i ∧ IsK k h a its) := by
  cases k with
  | l => exact Draws.list hh it a hne its
  | t => exact Draws.tuple hh it a hne its
theorem beginsK (k : Kd) (a : Addr) (its : Array Value) : Begins (.ref a) (obK k a) fun h => IsK k h a its := by
  cases k with
  | l => exact begins_list a its
  | t => exact begins_tuple a its
theorem ItK.at {k : Kd} {h h' : Heap} {it a : Addr} {i : Nat} (x : ItK k h it a i) (hk : ∀ o, h.get? it = some o → h'.get? it = some o) : ItK k h' it a i := by
  cases k with
  | l => exact Heap.IsListIter.at x hk
  | t => exact Heap.IsTupleIter.at x hk
theorem ItK.obj {k : Kd} {h : Heap} {it a : Addr} {i : Nat} (x : ItK k h it a i) : ∃ o, h.get? it = some o ∧ ∀ v, o.data ≠ .cell v := by
  cases k with
  | l =>
    obtain ⟨o, e, _, d⟩ := x
    exact ⟨o, e, fun v z => by rw [d] at z; cases z⟩
  | t =>
    obtain ⟨o, e, _, d⟩ := x
    exact ⟨o, e, fun v z => by rw [d] at z; cases z⟩
theorem ItK.mk {k : Kd} {h : Heap} {it a : Addr} (e : h.get? it = some (obK k a)) : ItK k h it a 0 := by
  cases k with
  | l => exact ⟨_, e, rfl, rfl⟩
  | t => exact ⟨_, e, rfl, rfl⟩
section
variable {X : Cx} {pins : List (Addr × Obj)} {σ : L2.St} {H : Hp} {s : Shared} {a : Addr} {vs ws : List V} {k : Kd}
theorem _root_.L2.Inv.seqK (I : Inv X pins σ H s) (h : SqK k X.K H a vs) : ∃ its : List Value, Vals vs its ∧ IsK k s.heap a its.toArray ∧ vs.length ≤ sizeLine := by
  cases k with
  | l =>
    obtain ⟨its, rv, p, z⟩ := I.list h
    exact ⟨its, rv, p.isList, z⟩
  | t =>
    obtain ⟨its, rv, p, z⟩ := I.tuple h
    exact ⟨its, rv, p, z⟩
theorem _root_.L2.Inv.seqK_inj (I : Inv X pins σ H s) (h : SqK k X.K H a vs) (h' : SqK k X.K H a ws) : vs = ws := by
  cases k with
  | l => exact I.list_inj h h'
  | t => exact I.tuple_inj h h'
theorem IsK.lt {h : Heap} {its : Array Value} (x : IsK k h a its) : a < h.objs.size := by
  cases k with
  | l =>
    obtain ⟨o, e, _⟩ := x
    exact Heap.lt_size e
  | t =>
    obtain ⟨o, e, _⟩ := x
    exact Heap.lt_size e
end

/-! ### zip of two -/
def ItZ2 (K : PySem.W.Frag) (k1 k2 : Kd) (a b : Addr) : It :=
  ⟨fun i H => ∃ (xs ys : List V) (x y : V), SqK k1 K H a xs ∧ SqK k2 K H b ys ∧ xs[i]? = some x ∧ ys[i]? = some y,
    fun i H v H' => ∃ T x y, v = .ref T ∧ H T = none ∧ H' = upd H T (.tup [x, y]) ∧ (∀ xs, SqK k1 K H a xs → xs[i]? = some x) ∧ ∀ ys, SqK k2 K H b ys → ys[i]? = some y,
    fun i H => ∃ xs ys : List V, SqK k1 K H a xs ∧ SqK k2 K H b ys ∧ i = min xs.length ys.length⟩
structure Zs2 (a b z TI TO i1 i2 : Addr) : Prop where
  s : ZipSep2 z TI TO i1 i2 [i1, a] [i2, b]
  ai : a ≠ i1
  bi : b ≠ i2
theorem turn_Z2 {P : Program} {w : World} {K : PySem.W.Frag} {elts : List Expr} {kk : Nat} {tpos : Pos} {k1 k2 : Kd} {a b z TI TO i1 i2 : Addr} (D : Zs2 a b z TI TO i1 i2) :
    Turn P w K (.Tuple elts kk tpos) (ItZ2 K k1 k2 a b) [z, TI, TO, i1, i2] z (fun i h => IsZip h z TI TO .none ∧ IsTupOf2 h TI (.ref i1) (.ref i2) ∧ (∃ x y, IsTupOf2 h TO x y) ∧ ItK k1 h i1 a i ∧ ItK k2 h i2 b i) where
  mem := by simp
  obj := fun i h st c hc => by
    obtain ⟨hz, hTI, ⟨x, y, hTO⟩, h1, h2⟩ := st
    simp only [List.mem_cons, List.not_mem_nil, or_false] at hc
    rcases hc with rfl | rfl | rfl | rfl | rfl
    · exact ⟨_, hz, fun v q => nomatch q⟩
    · exact ⟨_, hTI, fun v q => nomatch q⟩
    · exact ⟨_, hTO, fun v q => nomatch q⟩
    · exact h1.obj
    · exact h2.obj
  keep := fun i h h' st kp => by
    obtain ⟨hz, hTI, ⟨x, y, hTO⟩, h1, h2⟩ := st
    exact ⟨kp z (by simp) _ hz, kp TI (by simp) _ hTI, ⟨x, y, kp TO (by simp) _ hTO⟩, h1.at fun o q => kp i1 (by simp) o q, h2.at fun o q => kp i2 (by simp) o q⟩
  item := by
    intro X hP hw hK hc i pins s σ H E I hf st hg
    subst hP hw hK
    obtain ⟨hz, hTI, hTO, h1, h2⟩ := st
    obtain ⟨xs, ys, x, y, hqx, hqy, hx, hy⟩ := hg
    obtain ⟨its, rv, p, _⟩ := I.seqK hqx
    obtain ⟨its2, rv2, p2, _⟩ := I.seqK hqy
    obtain ⟨u, hu, ru⟩ := rv.get hx
    obtain ⟨u2, hu2, ru2⟩ := rv2.get hy
    have hh : X.A.in1.handled = none := I.ok.hd hc
    have W := GoesN.zip2 (prog := X.prog) (w := X.w) (A := X.A) (elts := elts) (x1 := kk) (pos := tpos) D.s (drawsK k1 hh i1 a D.ai its.toArray) (drawsK k2 hh i2 b D.bi its2.toArray)
    have hi1 : i < its.toArray.size := by rw [List.size_toArray]; exact (List.getElem?_eq_some_iff.mp hu).1
    have hi2 : i < its2.toArray.size := by rw [List.size_toArray]; exact (List.getElem?_eq_some_iff.mp hu2).1
    refine W.goes i s (fun v s2 => ∃ x H', Inv X pins σ H' s2 ∧ RelV x v ∧ (ItZ2 X.K k1 k2 a b).yld i H x H' ∧ (IsZip s2.heap z TI TO .none ∧ IsTupOf2 s2.heap TI (.ref i1) (.ref i2) ∧ (∃ x y, IsTupOf2 s2.heap TO x y) ∧ ItK k1 s2.heap i1 a (i + 1) ∧ ItK k2 s2.heap i2 b (i + 1)) ∧ ∀ b ∈ [z, TI, TO, i1, i2], H' b = none) E (Nat.lt_min.mpr ⟨hi1, hi2⟩) ⟨hz, hTI, hTO, ⟨h1, p⟩, ⟨h2, p2⟩⟩ fun v h' tk hY hst hk htk => ?_
    obtain ⟨T, x', y', rfl, hT, hx', hy', hIs⟩ := hY
    obtain ⟨q1, q2, q3, ⟨q4, _⟩, ⟨q5, _⟩⟩ := hst
    have ex : x' = u := Option.some.inj (hx'.symm.trans (by simpa using hu))
    have ey : y' = u2 := Option.some.inj (hy'.symm.trans (by simpa using hu2))
    subst ex ey
    have new : ObjOk X.prog X.w (upd H T (.tup [x, y])) h' T (.tup [x, y]) := ⟨by show 2 ≤ sizeLine; decide, [x', y'], .cons ru (.cons ru2 .nil), hIs⟩
    have J := I.turnedNew (t' := tk) (ch := [z, TI, TO, i1, i2]) (fun c o hb q => hk c o (fun hc => hb (by
      simp only [List.mem_cons, List.not_mem_nil, or_false] at hc ⊢
      rcases hc with z | z | z | z
      · exact .inl z
      · exact .inr (.inr (.inl z))
      · exact .inr (.inr (.inr (.inl z)))
      · exact .inr (.inr (.inr (.inr z))))) q) hf hT new
    have nT : H T = none := I.hok.fresh hT
    refine ⟨.ref T, _, J, rfl, ⟨T, x, y, rfl, nT, rfl, fun l hl => by rw [I.seqK_inj hl hqx]; exact hx, fun l hl => by rw [I.seqK_inj hl hqy]; exact hy⟩, ⟨q1, q2, q3, q4, q5⟩, fun c hcm => ?_⟩
    have hlt : c < s.heap.objs.size := by
      simp only [List.mem_cons, List.not_mem_nil, or_false] at hcm
      rcases hcm with rfl | rfl | rfl | rfl | rfl
      · exact Heap.lt_size hz
      · exact Heap.lt_size hTI
      · obtain ⟨_, _, e⟩ := hTO
        exact Heap.lt_size e
      · obtain ⟨_, e, _⟩ := h1.obj
        exact Heap.lt_size e
      · obtain ⟨_, e, _⟩ := h2.obj
        exact Heap.lt_size e
    rw [upd_ne (Nat.ne_of_lt (Nat.lt_of_lt_of_le hlt hT))]
    exact (hf c hcm).1
  done := by
    intro X hP hw hK hc i pins s σ H E I hf st hg
    subst hP hw hK
    obtain ⟨hz, hTI, hTO, h1, h2⟩ := st
    obtain ⟨xs, ys, hqx, hqy, hend⟩ := hg
    obtain ⟨its, rv, p, _⟩ := I.seqK hqx
    obtain ⟨its2, rv2, p2, _⟩ := I.seqK hqy
    have hh : X.A.in1.handled = none := I.ok.hd hc
    have W := GoesN.zip2 (prog := X.prog) (w := X.w) (A := X.A) (elts := elts) (x1 := kk) (pos := tpos) D.s (drawsK k1 hh i1 a D.ai its.toArray) (drawsK k2 hh i2 b D.bi its2.toArray)
    have e : i = min its.toArray.size its2.toArray.size := by rw [List.size_toArray, List.size_toArray, ← rv.length, ← rv2.length]; exact hend
    subst e
    refine W.stops s (fun s1 => Inv X pins σ H s1) E ⟨hz, hTI, hTO, ⟨h1, p⟩, ⟨h2, p2⟩⟩ fun h' tk hk _ => ?_
    refine I.turnedL (t' := tk) (ch := [z, TI, TO, i1, i2]) (fun c o hb q => hk c o (fun hc => hb (by
      simp only [List.mem_cons, List.not_mem_nil, or_false] at hc ⊢
      rcases hc with z | z | z | z
      · exact .inl z
      · exact .inr (.inr (.inl z))
      · exact .inr (.inr (.inr (.inl z)))
      · exact .inr (.inr (.inr (.inr z))))) q) hf
  self := fun A i s Q E st h => wpAny_pyIter_zip st.1 h

/-! ### enumerate -/
def ItE (K : PySem.W.Frag) (k : Kd) (a : Addr) : It :=
  ⟨fun i H => ∃ (xs : List V) (x : V), SqK k K H a xs ∧ xs[i]? = some x,
    fun i H v H' => ∃ T x, v = .ref T ∧ H T = none ∧ H' = upd H T (.tup [.int (i : Nat), x]) ∧ ∀ xs, SqK k K H a xs → xs[i]? = some x,
    fun i H => ∃ xs : List V, SqK k K H a xs ∧ i = xs.length⟩
theorem turn_E {P : Program} {w : World} {K : PySem.W.Frag} {elts : List Expr} {kk : Nat} {tpos : Pos} {k : Kd} {a e it : Addr} (hei : e ≠ it) (hea : e ≠ a) (hai : a ≠ it) :
    Turn P w K (.Tuple elts kk tpos) (ItE K k a) [e, it] e (fun i h => (∃ old, IsEnum h e it ((i : Nat) : Int) old) ∧ ItK k h it a i) where
  mem := by simp
  obj := fun i h st c hc => by
    obtain ⟨⟨old, he⟩, h1⟩ := st
    simp only [List.mem_cons, List.not_mem_nil, or_false] at hc
    rcases hc with rfl | rfl
    · exact ⟨_, he, fun v q => nomatch q⟩
    · exact h1.obj
  keep := fun i h h' st kp => by
    obtain ⟨⟨old, he⟩, h1⟩ := st
    exact ⟨⟨old, kp e (by simp) _ he⟩, h1.at fun o q => kp it (by simp) o q⟩
  item := by
    intro X hP hw hK hc i pins s σ H E I hf st hg
    subst hP hw hK
    obtain ⟨⟨old, he⟩, h1⟩ := st
    obtain ⟨xs, x, hqx, hx⟩ := hg
    obtain ⟨its, rv, p, _⟩ := I.seqK hqx
    obtain ⟨u, hu, ru⟩ := rv.get hx
    have hh : X.A.in1.handled = none := I.ok.hd hc
    have W := GoesN.enumFrom (prog := X.prog) (w := X.w) (A := X.A) (elts := elts) (x1 := kk) (pos := tpos) 0 (drawsK k hh it a hai its.toArray) e hei (by simp [hei, hea]) (by simp)
    have hi1 : i < its.toArray.size := by rw [List.size_toArray]; exact (List.getElem?_eq_some_iff.mp hu).1
    have z0 : ∀ j : Nat, (0 : Int) + (j : Int) = (j : Int) := fun j => Int.zero_add _
    refine W.goes i s (fun v s2 => ∃ x H', Inv X pins σ H' s2 ∧ RelV x v ∧ (ItE X.K k a).yld i H x H' ∧ ((∃ old, IsEnum s2.heap e it ((i + 1 : Nat) : Int) old) ∧ ItK k s2.heap it a (i + 1)) ∧ ∀ b ∈ [e, it], H' b = none) E hi1 ⟨⟨old, by rw [z0]; exact he⟩, ⟨h1, p⟩⟩ fun v h' tk hY hst hk htk => ?_
    obtain ⟨T, t, x', rfl, hT, hx', hIs⟩ := hY
    obtain ⟨⟨old', q1⟩, ⟨q4, _⟩⟩ := hst
    have ex : x' = u := Option.some.inj (hx'.symm.trans (by simpa using hu))
    subst ex
    rw [z0] at hIs q1
    have new : ObjOk X.prog X.w (upd H T (.tup [.int (i : Nat), x])) h' T (.tup [.int (i : Nat), x]) := ⟨by show 2 ≤ sizeLine; decide, [.int i t, x'], .cons ⟨_, rfl⟩ (.cons ru .nil), hIs⟩
    have J := I.turnedNew (t' := tk) (ch := [e, it]) (fun c o hb q => hk c o hb q) hf hT new
    have nT : H T = none := I.hok.fresh hT
    refine ⟨.ref T, _, J, rfl, ⟨T, x, rfl, nT, rfl, fun l hl => by rw [I.seqK_inj hl hqx]; exact hx⟩, ⟨⟨old', q1⟩, q4⟩, fun c hcm => ?_⟩
    have hlt : c < s.heap.objs.size := by
      simp only [List.mem_cons, List.not_mem_nil, or_false] at hcm
      rcases hcm with rfl | rfl
      · exact Heap.lt_size he
      · obtain ⟨_, e, _⟩ := h1.obj
        exact Heap.lt_size e
    rw [upd_ne (Nat.ne_of_lt (Nat.lt_of_lt_of_le hlt hT))]
    exact (hf c hcm).1
  done := by
    intro X hP hw hK hc i pins s σ H E I hf st hg
    subst hP hw hK
    obtain ⟨⟨old, he⟩, h1⟩ := st
    obtain ⟨xs, hqx, hend⟩ := hg
    obtain ⟨its, rv, p, _⟩ := I.seqK hqx
    have hh : X.A.in1.handled = none := I.ok.hd hc
    have W := GoesN.enumFrom (prog := X.prog) (w := X.w) (A := X.A) (elts := elts) (x1 := kk) (pos := tpos) 0 (drawsK k hh it a hai its.toArray) e hei (by simp [hei, hea]) (by simp)
    have e1 : i = its.toArray.size := by rw [List.size_toArray, ← rv.length]; exact hend
    subst e1
    refine W.stops s (fun s1 => Inv X pins σ H s1) E ⟨⟨old, by rw [Int.zero_add]; exact he⟩, ⟨h1, p⟩⟩ fun h' tk hk _ => ?_
    exact I.turnedL (t' := tk) (ch := [e, it]) (fun c o hb q => hk c o hb q) hf
  self := fun A i s Q E st h => let ⟨⟨_, he⟩, _⟩ := st; wpAny_pyIter_enum he h
end Ev
end

section
set_option maxRecDepth 100000
set_option maxHeartbeats 4000000
namespace Ev
open PySem PySem.Spec PyProof.Rows L2

/-- an item as a walk gives it: a value, or a zip's (enumerate's) pair -/
inductive IRep (G : Gd) (L : List Addr) (H : Hp) (A : Addr → Prop) : Bool → PyData → V → Prop
  | rep {pr : Bool} {d : PyData} {v : V} : Rep G L H A d v → IRep G L H A pr d v
  | pair {a : Addr} {vs : List V} {ds : List PyData} : SqT G.K H a vs → Reps G L H A ds vs → IRep G L H A true (.tuple ds) (.ref a)

/-- the iterator J gives ds, while what is known of the heap H1 stays -/
def DWalk (G : Gd) (L : List Addr) (A : Addr → Prop) (pr : Bool) (J : It) (H1 : Hp) (ds : List PyData) : Prop :=
  ∃ S : Hp → Prop, S H1 ∧ (∀ H H', S H → Kp A H H' → S H') ∧ (∀ i H, i < ds.length → S H → J.go i H) ∧ (∀ H, S H → J.stop ds.length H) ∧
    ∀ i H x H', i < ds.length → S H → J.yld i H x H' → Same H H' ∧ ∃ d, ds[i]? = some d ∧ IRep G L H' A pr d x

abbrev DI := EnvD → Store → ER (List PyData)
def APn (L : List Addr) (ρ : EnvD) (σ : L2.St) (M : List Nat) (H H1 : Hp) (b : Addr) : Prop := AP L ρ σ M H b ∧ H1 b ≠ none
def IPost (F : Fx) (L : List Addr) (AL : Addr → Prop) (ρ : EnvD) (σ : L2.St) (H : Hp) (pr : Bool) (M : List Nat) (R : It → Hp → Prop) : ER (List PyData) → Prop
  | .ok ds st => ∀ J H', Rel F L AL ρ st σ H' → Ext L H H' → DWalk F.G L (APn (L ++ F.Z) ρ σ M H H') pr J H' ds → R J H'
  | .exn x st => ∀ cls dd H', Rel F L AL ρ st σ H' → Ext L H H' → XRep F x cls dd H' → F.EX cls dd H'
  | .stuck => False
def tI (F : Fx) (pr : Bool) (M : List Nat) (f : DI) : TI := fun σ H R => ∃ L AL ρ st, Rel F L AL ρ st σ H ∧ IPost F L AL ρ σ H pr M R (f ρ st)

theorem _root_.L2.PI.imp {X : Cx} {tg e : Expr} {t t' : TI} (h : PI X tg e t) (k : ∀ σ H R, t' σ H R → t σ H R) : PI X tg e t' := ⟨fun pins s σ H Q I q => h.run pins s σ H Q I (k _ _ _ q)⟩

section
variable {G : Gd} {L : List Addr} {H H1 : Hp} {A : Addr → Prop}
theorem Reps.now {ds : List PyData} {vs : List V} (r : Reps G L H A ds vs) : Reps G L H (fun b => A b ∧ H b ≠ none) ds vs := r.imp fun b k h => ⟨k, h⟩
theorem LL.now {a : Addr} {vs : List V} (r : LL H A a vs) : LL H (fun b => A b ∧ H b ≠ none) a vs := r.imp fun b k h => ⟨k, h⟩
theorem SqT.kp {K : PySem.W.Frag} {a : Addr} {vs : List V} {H' : Hp} (k : Kp A H H') (h : SqT K H a vs) : SqT K H' a vs := by
  rcases h with (h | ⟨o, h⟩) | h
  · exact .inl (.inl (k _ _ h (fun z => nomatch z) rfl))
  · exact .inl (.inr ⟨o, k _ _ h (fun z => nomatch z) rfl⟩)
  · exact .inr h
theorem walk_lstD {a : Addr} {vs : List V} {ds : List PyData} (h : LL H A a vs) (r : Reps G L H A ds vs) : DWalk G L A false (Itl G.K a) H ds := by
  have hl := r.length
  refine ⟨fun H => LL H A a vs ∧ Reps G L H A ds vs, ⟨h, r⟩, fun H H' s k => ⟨s.1.keep k, s.2.keep k⟩, fun i H hi s => ⟨vs, vs[i]'(by omega), s.1.sq, List.getElem?_eq_getElem (by omega)⟩, fun H s => ⟨vs, s.1.sq, by omega⟩, fun i H x H' hi s y => ?_⟩
  obtain ⟨rfl, y⟩ := y
  have e := y vs s.1.sq
  obtain ⟨d, e1, r1⟩ := s.2.get e
  exact ⟨fun _ _ z => z, d, e1, .rep r1⟩
theorem walk_tupD {a : Addr} {vs : List V} {ds : List PyData} (h : SqT G.K H a vs) (r : Reps G L H A ds vs) : DWalk G L A false (Itt G.K a) H ds := by
  have hl := r.length
  refine ⟨fun H => SqT G.K H a vs ∧ Reps G L H A ds vs, ⟨h, r⟩, fun H H' s k => ⟨SqT.kp k s.1, s.2.keep k⟩, fun i H hi s => ⟨vs, vs[i]'(by omega), s.1, List.getElem?_eq_getElem (by omega)⟩, fun H s => ⟨vs, s.1, by omega⟩, fun i H x H' hi s y => ?_⟩
  obtain ⟨rfl, y⟩ := y
  have e := y vs s.1
  obtain ⟨d, e1, r1⟩ := s.2.get e
  exact ⟨fun _ _ z => z, d, e1, .rep r1⟩
theorem walk_rngD {lo : Int} {n : Nat} : DWalk G L A false (Itr lo n) H ((List.range n).map fun i => .int (lo + (i : Nat))) := by
  refine ⟨fun _ => True, trivial, fun _ _ _ _ => trivial, fun i H hi s => by show i < n; simpa using hi, fun H s => by show n ≤ _; simp, fun i H x H' hi s y => ?_⟩
  obtain ⟨rfl, rfl⟩ := y
  have hi : i < n := by simpa using hi
  exact ⟨fun _ _ z => z, _, by simp [hi], .rep (.int _)⟩
/-- a list or a tuple, as zip and enumerate take it -/
def KWalk (G : Gd) (L : List Addr) (A : Addr → Prop) (H : Hp) (k : Kd) (a : Addr) (vs : List V) (ds : List PyData) : Prop := (match k with
  | .l => LL H A a vs
  | .t => SqT G.K H a vs) ∧ Reps G L H A ds vs
theorem KWalk.sq {k : Kd} {a : Addr} {vs : List V} {ds : List PyData} (h : KWalk G L A H k a vs ds) : SqK k G.K H a vs := by
  cases k with
  | l => exact h.1.sq
  | t => exact h.1
theorem KWalk.kp {k : Kd} {a : Addr} {vs : List V} {ds : List PyData} {H' : Hp} (h : KWalk G L A H k a vs ds) (q : Kp A H H') : KWalk G L A H' k a vs ds := by
  cases k with
  | l => exact ⟨h.1.keep q, h.2.keep q⟩
  | t => exact ⟨SqT.kp q h.1, h.2.keep q⟩
theorem KWalk.now {k : Kd} {a : Addr} {vs : List V} {ds : List PyData} (h : KWalk G L A H k a vs ds) : KWalk G L (fun b => A b ∧ H b ≠ none) H k a vs ds := by
  cases k with
  | l => exact ⟨h.1.now, h.2.now⟩
  | t => exact ⟨h.1, h.2.now⟩
theorem same_tup {T : Addr} {vs : List V} (h : H T = none) : Same H (upd H T (.tup vs)) := same_upd h
theorem walk_zipD {k1 k2 : Kd} {a b : Addr} {vs ws : List V} {ds es : List PyData} (h1 : KWalk G L A H k1 a vs ds) (h2 : KWalk G L A H k2 b ws es) : DWalk G L A true (ItZ2 G.K k1 k2 a b) H ((ds.zip es).map fun p => .tuple [p.1, p.2]) := by
  have l1 := h1.2.length
  have l2 := h2.2.length
  have hn : ((ds.zip es).map fun p => PyData.tuple [p.1, p.2]).length = min vs.length ws.length := by simp [l1, l2]
  refine ⟨fun H => KWalk G L A H k1 a vs ds ∧ KWalk G L A H k2 b ws es, ⟨h1, h2⟩, fun H H' s k => ⟨s.1.kp k, s.2.kp k⟩, fun i H hi s => ?_, fun H s => ?_, fun i H x H' hi s y => ?_⟩
  · rw [hn] at hi
    exact ⟨vs, ws, vs[i]'(by omega), ws[i]'(by omega), s.1.sq, s.2.sq, List.getElem?_eq_getElem (by omega), List.getElem?_eq_getElem (by omega)⟩
  · rw [hn]
    exact ⟨vs, ws, s.1.sq, s.2.sq, rfl⟩
  · obtain ⟨T, x, y, rfl, hT, rfl, hx, hy⟩ := y
    have ex := hx vs s.1.sq
    have ey := hy ws s.2.sq
    obtain ⟨d, e1, r1⟩ := s.1.2.get ex
    obtain ⟨d2, e2, r2⟩ := s.2.2.get ey
    have kp : Kp A H (upd H T (.tup [x, y])) := fun b o hb _ _ => same_upd hT b o hb
    refine ⟨same_upd hT, .tuple [d, d2], ?_, .pair (.inl (.inl upd_same)) (.cons (r1.keep kp) (.cons (r2.keep kp) .nil))⟩
    rw [List.getElem?_map, (List.getElem?_zip_eq_some (z := (d, d2))).mpr ⟨e1, e2⟩]
    rfl
def enumD (ds : List PyData) : List PyData := (ds.zipIdx).map fun p => .tuple [.int (p.2 : Nat), p.1]
theorem walk_enuD {k : Kd} {a : Addr} {vs : List V} {ds : List PyData} (h : KWalk G L A H k a vs ds) : DWalk G L A true (ItE G.K k a) H (enumD ds) := by
  have l1 := h.2.length
  have hn : (enumD ds).length = vs.length := by simp [enumD, l1]
  refine ⟨fun H => KWalk G L A H k a vs ds, h, fun H H' s k => s.kp k, fun i H hi s => ?_, fun H s => ?_, fun i H x H' hi s y => ?_⟩
  · rw [hn] at hi
    exact ⟨vs, vs[i]'(by omega), s.sq, List.getElem?_eq_getElem (by omega)⟩
  · rw [hn]
    exact ⟨vs, s.sq, rfl⟩
  · obtain ⟨T, x, rfl, hT, rfl, hx⟩ := y
    have ex := hx vs s.sq
    obtain ⟨d, e1, r1⟩ := s.2.get ex
    have kp : Kp A H (upd H T (.tup [.int (i : Nat), x])) := fun b o hb _ _ => same_upd hT b o hb
    refine ⟨same_upd hT, .tuple [.int (i : Nat), d], ?_, .pair (.inl (.inl upd_same)) (.cons (.int _) (.cons (r1.keep kp) .nil))⟩
    rw [enumD, List.getElem?_map, List.getElem?_zipIdx, e1]
    simp
end

/-! ### the forms -/
def seqOf : PyData → Option (List PyData)
  | .list xs => some xs
  | .tuple xs => some xs
  | _ => none
def iSeq (f : DE) : DI := fun ρ st => (f ρ st).bind fun d st => .of (seqOf d) st
@[irreducible] def rng1Of : List PyData → Option (List PyData)
  | [.int j] => if j.natAbs ≤ 16777216 then some ((List.range j.toNat).map fun i => .int (0 + (i : Nat))) else none
  | _ => none
@[irreducible] def rng2Of : List PyData → Option (List PyData)
  | [.int i, .int j] => if i.natAbs ≤ 16777216 ∧ j.natAbs ≤ 16777216 then some ((List.range (j - i).toNat).map fun k => .int (i + (k : Nat))) else none
  | _ => none
def iArgs (g : List PyData → Option (List PyData)) (fs : DEs) : DI := fun ρ st => (fs ρ st).bind fun ds st => .of (g ds) st
def zipOf : List PyData → Option (List PyData)
  | [d, e] => (seqOf d).bind fun ds => (seqOf e).map fun es => (ds.zip es).map fun p => .tuple [p.1, p.2]
  | _ => none
def enuOf : List PyData → Option (List PyData)
  | [d] => (seqOf d).map enumD
  | _ => none

section
variable {X : Cx} {F : Fx} {M : List Nat} {fr : Bool} {e a b tg : Expr} {f : DE} {fs : DEs} {pos p : Pos}
/-- a list or a tuple told -/
theorem seq_rep {G : Gd} {L : List Addr} {H : Hp} {A : Addr → Prop} {d : PyData} {ds : List PyData} {v : V} (r : Rep G L H A d v) (e : seqOf d = some ds) : ∃ k a vs, v = .ref a ∧ KWalk G L A H k a vs ds := by
  cases r with
  | tup h n r => cases e; exact ⟨.t, _, _, rfl, h.sq, r⟩
  | lst h n r => cases e; exact ⟨.l, _, _, rfl, h, r⟩
  | _ => cases e
theorem pi_seqD (hl : PE X e (tD F M fr f)) (hK : F.G.K = X.K) : PI X tg e (tI F false M (iSeq f)) := by
  refine ⟨fun pins s σ H R I ⟨L, AL, ρ, st, Rl, h⟩ => ?_⟩
  refine thn (hl.run pins s σ H _ I (tD_bind (P := IPost F L AL ρ σ H false M R) (Q1 := fun v H1 => ∃ k a, v = .ref a ∧ (∃ vs, SqK k X.K H1 a vs) ∧ R (match k with | .l => Itl X.K a | .t => Itt X.K a) H1) Rl h (fun x st' h => h) (fun h => h) fun d st1 v H1 R1 E1 rd _ h => ?_)) ?_
  · cases q : seqOf d with
    | none =>
      rw [q] at h
      exact h.elim
    | some ds =>
      rw [q] at h
      obtain ⟨k, a, vs, rfl, kw⟩ := seq_rep rd q
      have kw' := kw.now
      cases k with
      | l => exact ⟨.l, a, rfl, ⟨vs, by rw [← hK]; exact kw.sq⟩, by rw [← hK]; exact h _ H1 R1 E1 (walk_lstD kw'.1 kw'.2)⟩
      | t => exact ⟨.t, a, rfl, ⟨vs, by rw [← hK]; exact kw.sq⟩, by rw [← hK]; exact h _ H1 R1 E1 (walk_tupD kw'.1 kw'.2)⟩
  · rintro v s1 ⟨x, H1, I1, r1, k, a, rfl, ⟨vs, hq⟩, q⟩
    cases r1
    obtain ⟨its, rv, p1, hz⟩ := I1.seqK hq
    have fp : ∀ b ∈ [s1.heap.objs.size], FpOk X pins H1 b := fun b hb => by
      have e : b = s1.heap.objs.size := by simpa using hb
      subst e
      exact I1.fpOk (Nat.le_refl _) (I1.hok.fresh (Nat.le_refl _))
    have Ik : ∀ o : Obj, Inv X pins σ H1 { s1 with heap := s1.heap.push o } := fun o => I1.kept (t' := s1.toks) fun b o e => Heap.get?_push_of_some _ e
    cases k with
    | l => exact wpAny_pyIter_list p1 ⟨s1.heap.objs.size, [s1.heap.objs.size], _, _, H1, rfl, Ik _, turn_list a _, ⟨_, Heap.get?_push_size _ rfl, rfl, rfl⟩, fp, q⟩
    | t => exact wpAny_pyIter_tuple p1 ⟨s1.heap.objs.size, [s1.heap.objs.size], _, _, H1, rfl, Ik _, turn_tuple a _, ⟨_, Heap.get?_push_size _ rfl, rfl, rfl⟩, fp, q⟩
theorem args_it {g : List PyData → Option (List PyData)} {L : List Addr} {AL : Addr → Prop} {ρ : EnvD} {st : Store} {σ : L2.St} {H : Hp} {R : It → Hp → Prop} {Q1 : List V → Hp → Prop} {pr : Bool} {M' : List Nat} (Rl : Rel F L AL ρ st σ H) (h : IPost F L AL ρ σ H pr M' R (iArgs g fs ρ st))
    (hk : ∀ ds w st1 vs H1, Rel F L AL ρ st1 σ H1 → Ext L H H1 → Reps F.G L H1 (AP (L ++ F.Z) ρ σ M H) ds vs → g ds = some w → (∀ J, DWalk F.G L (APn (L ++ F.Z) ρ σ M' H H1) pr J H1 w → R J H1) → Q1 vs H1) : tDs F M fs σ H Q1 := by
  refine tDs_bind (P := IPost F L AL ρ σ H pr M' R) Rl h (fun x st' h => h) (fun h => h) fun ds st1 vs H1 R1 E1 rs h => ?_
  cases q : g ds with
  | none =>
    rw [q] at h
    exact h.elim
  | some w =>
    rw [q] at h
    exact hk ds w st1 vs H1 R1 E1 rs q fun J dw => h J H1 R1 E1 dw
theorem pi_rng1D (hg : Gl X "range") (hm : X.mg "range" = none) (ha : PA X [a] (tDs F M fs)) (hs : starEach [a] X.env = [(false, eval a X.env)] := by rfl) : PI X tg (.Call (.Name "range" p) [a] [] pos) (tI F false [] (iArgs rng1Of fs)) :=
  (pi_range1 hg hm ha hs).imp fun σ H R ⟨L, AL, ρ, st, Rl, h⟩ => by
    refine args_it Rl h fun ds w st1 vs H1 R1 E1 rs q h => ?_
    unfold rng1Of at q
    split at q
    · split at q
      · rename_i j hj
        cases q
        cases rs with
        | cons r t =>
          cases t
          cases r
          exact ⟨j, rfl, by omega, by omega, h _ walk_rngD⟩
      · cases q
    · cases q
theorem pi_rng2D (hg : Gl X "range") (hm : X.mg "range" = none) (ha : PA X [a, b] (tDs F M fs)) (hs : starEach [a, b] X.env = [(false, eval a X.env), (false, eval b X.env)] := by rfl) (hs2 : starEach [b] X.env = [(false, eval b X.env)] := by rfl) : PI X tg (.Call (.Name "range" p) [a, b] [] pos) (tI F false [] (iArgs rng2Of fs)) :=
  (pi_range2 hg hm ha hs hs2).imp fun σ H R ⟨L, AL, ρ, st, Rl, h⟩ => by
    refine args_it Rl h fun ds w st1 vs H1 R1 E1 rs q h => ?_
    unfold rng2Of at q
    split at q
    · split at q
      · rename_i i j hj
        cases q
        cases rs with
        | cons r t =>
          cases t with
          | cons r2 t =>
            cases t
            cases r
            cases r2
            exact ⟨i, j, rfl, ⟨by omega, by omega, by omega, by omega⟩, h _ walk_rngD⟩
      · cases q
    · cases q
theorem zs2_by (n a b : Nat) (la : a < n) (lb : b < n) : Zs2 a b (n + 4) (n + 2) (n + 3) n (n + 1) := by
  refine ⟨?_, Nat.ne_of_lt la, Nat.ne_of_lt (Nat.lt_succ_of_lt lb)⟩
  have ni : ∀ x y z : Nat, x ≠ y → x ≠ z → x ∉ [y, z] := fun x y z h1 h2 => by simp [h1, h2]
  constructor
  all_goals first
    | exact Nat.ne_of_gt (by omega)
    | exact Nat.ne_of_lt (by omega)
    | exact List.mem_cons_self
    | exact ni _ _ _ (Nat.ne_of_gt (by omega)) (Nat.ne_of_gt (by omega))
    | exact ni _ _ _ (Nat.ne_of_lt (by omega)) (Nat.ne_of_gt (by omega))
    | exact ni _ _ _ (Nat.ne_of_lt (by omega)) (Nat.ne_of_lt (by omega))
    | (intro c hc; simp only [List.mem_cons, List.not_mem_nil, or_false] at hc; rcases hc with rfl | rfl <;> (first | exact ni _ _ _ (Nat.ne_of_gt (by omega)) (Nat.ne_of_gt (by omega)) | exact ni _ _ _ (Nat.ne_of_lt (by omega)) (Nat.ne_of_gt (by omega)) | exact ni _ _ _ (Nat.ne_of_lt (by omega)) (Nat.ne_of_lt (by omega))))
theorem pi_zipD {elts : List Expr} {kk : Nat} {tpos : Pos} (hK : F.G.K = X.K) (hg : Gl X "zip") (hm : X.mg "zip" = none) (ha : PA X [a, b] (tDs F M fs))
    (hs : starEach [a, b] X.env = (false, eval a X.env) :: starEach [b] X.env := by rfl) (hpl : (backTo pos (starEach [b] X.env)).any (·.1) = false := by rfl) : PI X (.Tuple elts kk tpos) (.Call (.Name "zip" p) [a, b] [] pos) (tI F true M (iArgs zipOf fs)) := by
  refine ⟨fun pins s σ H R I ⟨L, AL, ρ, st, Rl, h⟩ => ?_⟩
  have h' : tDs F M fs σ H fun vs H1 => ∃ k1 k2 a b xs ys, vs = [.ref a, .ref b] ∧ SqK k1 X.K H1 a xs ∧ SqK k2 X.K H1 b ys ∧ R (ItZ2 X.K k1 k2 a b) H1 := by
    refine args_it Rl h fun ds w st1 vs H1 R1 E1 rs q h => ?_
    unfold zipOf at q
    split at q
    · rename_i d e
      cases e1 : seqOf d with
      | none => rw [e1] at q; cases q
      | some xs =>
        cases e2 : seqOf e with
        | none => rw [e1, e2] at q; cases q
        | some ys =>
          rw [e1, e2] at q
          cases q
          cases rs with
          | cons r t =>
            cases t with
            | cons r2 t =>
              cases t
              obtain ⟨k1, a1, vs1, rfl, kw1⟩ := seq_rep r e1
              obtain ⟨k2, a2, vs2, rfl, kw2⟩ := seq_rep r2 e2
              exact ⟨k1, k2, a1, a2, vs1, vs2, rfl, by rw [← hK]; exact kw1.sq, by rw [← hK]; exact kw2.sq, by rw [← hK]; exact h _ (walk_zipD kw1.now kw2.now)⟩
    · cases q
  refine Call_ (ld_blt I hg hm PyProof.Rows.boot_zip (PyProof.Rows.callWith_type1 (thn (ha.run pos pins s σ H _ I h') fun us s1 ⟨vs, H1, I1, r1, q1⟩ => ?_) hs hpl))
  obtain ⟨k1, k2, a, b, xs, ys, rfl, hqx, hqy, q⟩ := q1
  cases r1 with
  | cons r rr =>
    cases rr with
    | cons r' rr =>
      cases rr
      cases r
      cases r'
      obtain ⟨its, rv, p1, _⟩ := I1.seqK hqx
      obtain ⟨its2, rv2, p2, _⟩ := I1.seqK hqy
      have la : a < s1.heap.objs.size := p1.lt
      have lb : b < s1.heap.objs.size := p2.lt
      refine zip_begins2 (beginsK k1 a _) (beginsK k2 b _) p1 p2 fun h' hz hTI hTO h1 h2 hsz hk => wpAny_pyIter_zip hz ?_
      have I2 : Inv X pins σ H1 { s1 with heap := h' } := I1.kept (t' := s1.toks) hk
      have Dz : Zs2 a b (s1.heap.objs.size + 4) (s1.heap.objs.size + 2) (s1.heap.objs.size + 3) s1.heap.objs.size (s1.heap.objs.size + 1) := by
        exact zs2_by _ _ _ la lb
      refine ⟨s1.heap.objs.size + 4, [s1.heap.objs.size + 4, s1.heap.objs.size + 2, s1.heap.objs.size + 3, s1.heap.objs.size, s1.heap.objs.size + 1], _, _, H1, rfl, I2, turn_Z2 Dz, ⟨hz, hTI, ⟨_, _, hTO⟩, .mk h1, .mk h2⟩, fun c hcm => ?_, q⟩
      have hle : s1.heap.objs.size ≤ c := by
        simp only [List.mem_cons, List.not_mem_nil, or_false] at hcm
        rcases hcm with z | z | z | z | z <;> rw [z] <;> first | exact Nat.le_add_right _ _ | exact Nat.le_refl _
      exact I1.fpOk hle (I1.hok.fresh hle)
theorem pi_enuD {elts : List Expr} {kk : Nat} {tpos : Pos} (hK : F.G.K = X.K) (hg : Gl X "enumerate") (hm : X.mg "enumerate" = none) (ha : PA X [a] (tDs F M fs)) (hs : starEach [a] X.env = [(false, eval a X.env)] := by rfl) : PI X (.Tuple elts kk tpos) (.Call (.Name "enumerate" p) [a] [] pos) (tI F true M (iArgs enuOf fs)) := by
  refine ⟨fun pins s σ H R I ⟨L, AL, ρ, st, Rl, h⟩ => ?_⟩
  have h' : tDs F M fs σ H fun vs H1 => ∃ k a xs, vs = [.ref a] ∧ SqK k X.K H1 a xs ∧ R (ItE X.K k a) H1 := by
    refine args_it Rl h fun ds w st1 vs H1 R1 E1 rs q h => ?_
    unfold enuOf at q
    split at q
    · rename_i d
      cases e1 : seqOf d with
      | none => rw [e1] at q; cases q
      | some xs =>
        rw [e1] at q
        cases q
        cases rs with
        | cons r t =>
          cases t
          obtain ⟨k1, a1, vs1, rfl, kw1⟩ := seq_rep r e1
          exact ⟨k1, a1, vs1, rfl, by rw [← hK]; exact kw1.sq, by rw [← hK]; exact h _ (walk_enuD kw1.now)⟩
    · cases q
  refine Call_ (ld_blt I hg hm boot_enumerate (PyProof.Rows.callWith_type1 (thn (ha.run pos pins s σ H _ I h') fun us s1 ⟨vs, H1, I1, r1, q1⟩ => ?_) hs rfl))
  obtain ⟨k, a, xs, rfl, hq, q⟩ := q1
  cases r1 with
  | cons r rr =>
    cases rr
    cases r
    obtain ⟨its, rv, p', hz⟩ := I1.seqK hq
    have la : a < s1.heap.objs.size := p'.lt
    refine ev_callEnum (beginsK k a _) p' fun h' he hit hsz hk => wpAny_pyIter_enum he ?_
    have I2 : Inv X pins σ H1 { s1 with heap := h' } := I1.kept (t' := s1.toks) hk
    refine ⟨s1.heap.objs.size + 1, [s1.heap.objs.size + 1, s1.heap.objs.size], _, _, H1, rfl, I2, turn_E (Nat.succ_ne_self _) (Nat.ne_of_gt (Nat.lt_succ_of_lt la)) (Nat.ne_of_lt la), ⟨⟨.none, he⟩, .mk hit⟩, fun b hb => ?_, q⟩
    have hle : s1.heap.objs.size ≤ b := by
      simp only [List.mem_cons, List.not_mem_nil, or_false] at hb
      rcases hb with z | z <;> rw [z]
      · exact Nat.le_add_right _ _
      · exact Nat.le_refl _
    exact I1.fpOk hle (I1.hok.fresh hle)
end
end Ev
end

section
set_option maxRecDepth 100000
set_option maxHeartbeats 4000000
namespace Ev
open PySem PySem.Spec PyProof.Rows L2

/-! ### targets -/
abbrev DG := PyData → EnvD → Option EnvD
abbrev DGs := List PyData → EnvD → Option EnvD
def gN (i : Nat) : DG := fun d ρ => if i < ρ.length then some (ρ.set i (some (d, false))) else none
def gTp (gs : DGs) : DG := fun d ρ => match d with
  | .tuple ds => gs ds ρ
  | _ => none
def gNl : DGs := fun ds ρ => if ds.isEmpty = true then some ρ else none
def gCn (g : DG) (gs : DGs) : DGs := fun ds ρ => match ds with
  | d :: ds => (g d ρ).bind fun ρ => gs ds ρ
  | [] => none

section
variable {F : Fx} {L : List Addr} {AL A : Addr → Prop} {ρ : EnvD} {st st' : Store} {σ : L2.St} {H H' : Hp}
theorem own_put {i j : Nat} {d : PyData} {v : V} {b : Addr} (h : OwnAt (ρ.set i (some (d, false))) (σ.set i (some v)) j b) : OwnAt ρ σ j b := by
  obtain ⟨⟨d', h1⟩, h2⟩ := h
  by_cases e : i = j
  · subst e
    rw [List.getElem?_set_self'] at h1
    cases q : ρ[i]? with
    | none => rw [q] at h1; cases h1
    | some z => rw [q] at h1; cases h1
  · rw [List.getElem?_set_ne e] at h1 h2
    exact ⟨⟨d', h1⟩, h2⟩
theorem NU.put {E : List Addr} {i : Nat} {d : PyData} {v : V} {b : Addr} (h : NU E ρ σ b) : NU E (ρ.set i (some (d, false))) (σ.set i (some v)) b := ⟨h.1, fun j hj => h.2 j (own_put hj)⟩
theorem Rel.put (R : Rel F L AL ρ st σ H) {i : Nat} {d : PyData} {v : V} (r : Rep F.G L H A d v) (hA : ∀ b, A b → H b ≠ none → NU (L ++ F.Z) ρ σ b) : Rel F L AL (ρ.set i (some (d, false))) st (σ.set i (some v)) H := by
  refine ⟨by simp [R.len], fun j e h => ?_, fun j e h => ?_, fun j k a h1 h2 => R.ne j k a (own_put h1) (own_put h2), R.ext, R.lx, R.lnd, R.ll, R.cell, fun b h => ⟨(R.al b h).1, fun j hj => (R.al b h).2 j (own_put hj)⟩, R.ald, R.tab, R.zt, by rw [List.length_set]; exact R.nn⟩
  · by_cases q : i = j
    · subst q
      have hi : i < ρ.length := by
        have := List.getElem?_eq_some_iff.mp h
        obtain ⟨h1, _⟩ := this
        simpa using h1
      rw [List.getElem?_set_self hi] at h
      cases h
      exact ⟨v, List.getElem?_set_self (by rw [← R.len]; exact hi), r.imp fun b k z => NU.put (hA b k z)⟩
    · rw [List.getElem?_set_ne q] at h
      obtain ⟨w, h1, h2⟩ := R.val j e h
      exact ⟨w, by rw [List.getElem?_set_ne q]; exact h1, h2.imp fun b k _ => NU.put k⟩
  · by_cases q : i = j
    · subst q
      rw [List.getElem?_set_self'] at h
      cases z : ρ[i]? with
      | none => rw [z] at h; cases h
      | some z' => rw [z] at h; cases h
    · rw [List.getElem?_set_ne q] at h
      obtain ⟨a, o, h1, h2, h3, h4⟩ := R.own j e h
      exact ⟨a, o, by rw [List.getElem?_set_ne q]; exact h1, h2, h3.imp fun b k _ => NU.put k, h4⟩
end

/-- a target's reading: the heap stays, the slots W change -/
def tG (F : Fx) (pr : Bool) (W : List Nat) (g : DG) : TG := fun v σ H Q => ∃ L AL ρ st d A, Rel F L AL ρ st σ H ∧ IRep F.G L H A pr d v ∧ (∀ b, A b → H b ≠ none → NU (L ++ F.Z) ρ σ b) ∧ ∃ ρ', g d ρ = some ρ' ∧
  ∀ σ', Rel F L AL ρ' st σ' H → (∀ b, NU (L ++ F.Z) ρ σ b → NU (L ++ F.Z) ρ' σ' b) → σ'.length = σ.length → (∀ j, j ∉ W → σ'[j]? = σ[j]?) → Q σ' H
def tGs (F : Fx) (W : List Nat) (g : DGs) : TGs := fun vs σ H Q => ∃ L AL ρ st ds A, Rel F L AL ρ st σ H ∧ Reps F.G L H A ds vs ∧ (∀ b, A b → H b ≠ none → NU (L ++ F.Z) ρ σ b) ∧ ∃ ρ', g ds ρ = some ρ' ∧
  ∀ σ', Rel F L AL ρ' st σ' H → (∀ b, NU (L ++ F.Z) ρ σ b → NU (L ++ F.Z) ρ' σ' b) → σ'.length = σ.length → (∀ j, j ∉ W → σ'[j]? = σ[j]?) → Q σ' H
theorem _root_.L2.PG.imp {X : Cx} {e : Expr} {t t' : TG} (h : PG X e t) (k : ∀ v σ H Q, t' v σ H Q → t v σ H Q) : PG X e t' := ⟨fun pins s σ H v u Q I r q => h.run pins s σ H v u Q I r (k _ _ _ _ q)⟩
theorem _root_.L2.PGs.imp {X : Cx} {e : List Expr} {t t' : TGs} (h : PGs X e t) (k : ∀ v σ H Q, t' v σ H Q → t v σ H Q) : PGs X e t' := ⟨fun pins s σ H v u Q I r q => h.run pins s σ H v u Q I r (k _ _ _ _ q)⟩
section
variable {X : Cx} {F : Fx} {pr : Bool} {W W1 W2 : List Nat} {g : DG} {gs : DGs} {pos : Pos}
theorem pg_nameD {i : Nat} {x : Str} (hN : X.N.Nodup) (hi : X.N[i]? = some x) (hx : Loc X.env.scope x) (hf : X.fn x = true ∨ X.env.scope.names.lookup x = some .local := by first | exact .inl rfl | exact .inr rfl | assumption) : PG X (.Name x pos) (tG F false [i] (gN i)) :=
  (pg_name hN hi hx hf).imp fun v σ H Q ⟨L, AL, ρ, st, d, A, R, r, hA, ρ', e, h⟩ => by
    cases r with
    | rep r =>
      unfold gN at e
      split at e
      · cases e
        refine h _ (R.put r hA) (fun b k => NU.put k) (by simp) fun j hj => ?_
        rw [List.getElem?_set_ne]
        intro z
        subst z
        exact hj List.mem_cons_self
      · cases e
theorem pgs_nilD : PGs X [] (tGs F [] gNl) := pgs_nil.imp fun vs σ H Q ⟨L, AL, ρ, st, ds, A, R, r, hA, ρ', e, h⟩ => by
  cases r with
  | nil =>
    cases e
    exact ⟨rfl, h σ R (fun _ k => k) rfl fun _ _ => rfl⟩
  | cons _ _ => cases e
theorem pgs_consD {e : Expr} {es : List Expr} (h1 : PG X e (tG F false W1 g)) (h2 : PGs X es (tGs F W2 gs))
    (hs : (assignEach (e :: es) X.env).map (·.2) = assign e X.env :: (assignEach es X.env).map (·.2) := by rfl) : PGs X (e :: es) (tGs F (W1 ++ W2) (gCn g gs)) :=
  (pgs_cons h1 h2 hs).imp fun vs σ H Q ⟨L, AL, ρ, st, ds, A, R, r, hA, ρ', e, h⟩ => by
    cases r with
    | nil => cases e
    | @cons d v ds vs r rs =>
      have e : (g d ρ).bind (fun ρ => gs ds ρ) = some ρ' := e
      cases q : g d ρ with
      | none => rw [q] at e; cases e
      | some ρ1 =>
        rw [q] at e
        refine ⟨v, vs, rfl, L, AL, ρ, st, d, A, R, .rep r, hA, ρ1, q, fun σ1 R1 k1 l1 w1 => ?_⟩
        refine ⟨L, AL, ρ1, st, ds, A, R1, rs, fun b k z => k1 b (hA b k z), ρ', e, fun σ2 R2 k2 l2 w2 => ?_⟩
        refine h σ2 R2 (fun b k => k2 b (k1 b k)) (l2.trans l1) fun j hj => ?_
        rw [w2 j fun z => hj (List.mem_append_right _ z), w1 j fun z => hj (List.mem_append_left _ z)]
theorem pg_tupD {es : List Expr} {k n : Nat} (hK : F.G.K = X.K) (hc : X.calm = true) (h : PGs X es (tGs F W gs)) (hl : ∀ ds ρ ρ', gs ds ρ = some ρ' → ds.length = n)
    (hn : (assignEach es X.env).length = n := by rfl) (hst : (assignEach es X.env).findIdx? (·.1) = none := by rfl) : PG X (.Tuple es k pos) (tG F pr W (gTp gs)) :=
  (pg_tup hc h hn hst).imp fun v σ H Q ⟨L, AL, ρ, st, d, A, R, r, hA, ρ', e, h⟩ => by
    unfold gTp at e
    split at e
    · rename_i ds
      have fin : ∀ {a : Addr} {vs : List V}, v = .ref a → SqT F.G.K H a vs → Reps F.G L H A ds vs → gTup X.K n (tGs F W gs) v σ H Q := fun {a vs} ev q rs =>
        ⟨a, vs, ev, by rw [← hK]; exact q, by rw [← rs.length]; exact hl _ _ _ e, L, AL, ρ, st, ds, A, R, rs, hA, ρ', e, h⟩
      cases r with
      | rep r =>
        cases r with
        | tup q n r => exact fin rfl q.sq r
      | pair q r => exact fin rfl q r
    · cases e
theorem len_nl {ds : List PyData} {ρ ρ' : EnvD} (h : gNl ds ρ = some ρ') : ds.length = 0 := by
  unfold gNl at h
  split at h
  · rename_i e
    simpa using e
  · cases h
theorem len_cn {n : Nat} (k : ∀ ds ρ ρ', gs ds ρ = some ρ' → ds.length = n) : ∀ ds ρ ρ', gCn g gs ds ρ = some ρ' → ds.length = n + 1 := fun ds ρ ρ' h => by
  cases ds with
  | nil => cases h
  | cons d ds =>
    have e : (g d ρ).bind (fun ρ => gs ds ρ) = some ρ' := h
    cases q : g d ρ with
    | none => rw [q] at e; cases e
    | some ρ1 =>
      rw [q] at e
      simp [k ds ρ1 ρ' e]
end
end Ev
end

section
set_option maxRecDepth 100000
set_option maxHeartbeats 4000000
namespace Ev
open PySem PySem.Spec PyProof.Rows L2

/-! ### comprehensions -/
def Fx.at (F : Fx) (Z : List Addr) : Fx := { F with EX := fun _ _ _ => False, Z := Z }
def frzE (own : List Nat) (ρ : EnvD) : EnvD := ρ.mapIdx fun i s => if own.contains i = true then none else s.map fun p => (p.1, false)
def noX {α : Type} (r : ER α) : ER α := match r with
  | .ok a st => .ok a st
  | _ => .stuck
abbrev DBd := EnvD → Store → List PyData → ER (List PyData)
def lcGo (g : DG) (ρ : EnvD) (bd : DBd) : List PyData → Store → List PyData → ER (List PyData)
  | [], st, rs => .ok rs st
  | d :: ds, st, rs => (ER.of (g d ρ) st).bind fun ρ1 st => (bd ρ1 st rs).bind fun rs st => lcGo g ρ bd ds st rs
def bdLast (c : DB) (e : DE) : DBd := fun ρ st rs => (noX (c ρ st)).bind fun b st => if b = true then (noX (e ρ st)).bind fun y st => if rs.length < sizeLine then .ok (rs ++ [y]) st else .stuck else .ok rs st
def bdFor (c : DB) (i : DI) (vs : List Nat) (g : DG) (bd : DBd) : DBd := fun ρ st rs => (noX (c ρ st)).bind fun b st => if b = true then (noX (i ρ st)).bind fun ds st => lcGo g (frzE vs ρ) bd ds st rs else .ok rs st
def eLc (i : DI) (own : List Nat) (g : DG) (bd : DBd) : DE := fun ρ st => (i ρ st).bind fun ds st => (noX (lcGo g (frzE own ρ) bd ds st [])).bind fun rs st => .ok (.list rs) st
def cYes : DB := fun _ st => .ok true st
def okP {α : Type} (K : α → Store → Prop) : ER α → Prop
  | .ok a st => K a st
  | _ => False
theorem okP.bind {α β : Type} {K : β → Store → Prop} {r : ER α} {k : α → Store → ER β} (h : okP K (r.bind k)) : okP (fun a st => okP K (k a st)) r := by
  cases r with
  | ok a st => exact h
  | exn x st => exact h
  | stuck => exact h
theorem okP.noX {α : Type} {K : α → Store → Prop} {r : ER α} (h : okP K (noX r)) : okP K r := by
  cases r with
  | ok a st => exact h
  | exn x st => exact h
  | stuck => exact h

theorem Tabs_kp {T : List (Addr × Str)} {H H' : Hp} (t : LamX.Tabs T H) (e : ∀ b o, H b = some o → mutO o = false → H' b = some o) : LamX.Tabs T H' := fun p hp => by
  obtain ⟨ps, h1, h2, h3⟩ := t p hp
  refine ⟨ps, e _ _ h1 rfl, h2, fun pos cv hc => ?_⟩
  obtain ⟨c, e1, e2⟩ := h3 pos cv hc
  exact ⟨c, e1, e _ _ e2 (mutO_code _ _)⟩

theorem wipe_get {σ : L2.St} : ∀ (vs : List Nat) (i : Nat), (wipe σ vs)[i]? = if i ∈ vs then σ[i]?.map (fun _ => none) else σ[i]?
  | [], i => by simp [wipe]
  | v :: vs, i => by
    unfold wipe
    rw [List.getElem?_set, wipe_length]
    by_cases e : v = i
    · subst e
      simp only [List.mem_cons, true_or, if_true]
      by_cases hv : v < σ.length
      · rw [if_pos hv, List.getElem?_eq_getElem hv]
        rfl
      · rw [if_neg hv, List.getElem?_eq_none (Nat.le_of_not_lt hv)]
        rfl
    · rw [if_neg e, wipe_get vs i]
      have : (i ∈ v :: vs) ↔ i ∈ vs := by simp [Ne.symm e]
      simp only [this]
theorem wipe_off {σ σ' : L2.St} {vs : List Nat} (hl : σ'.length = σ.length) (h : ∀ j, j ∉ vs → σ'[j]? = (wipe σ vs)[j]?) : wipe σ' vs = wipe σ vs := by
  apply List.ext_getElem?
  intro i
  rw [wipe_get, wipe_get]
  by_cases q : i ∈ vs
  · rw [if_pos q, if_pos q]
    by_cases hi : i < σ.length
    · rw [List.getElem?_eq_getElem hi, List.getElem?_eq_getElem (by omega : i < σ'.length)]
      rfl
    · rw [List.getElem?_eq_none (Nat.le_of_not_lt hi), List.getElem?_eq_none (by omega)]
  · rw [if_neg q, if_neg q]
    have := h i q
    rw [wipe_get, if_neg q] at this
    exact this
theorem frzE_get {own : List Nat} {ρ : EnvD} {i : Nat} {d : PyData} {w : Bool} (h : (frzE own ρ)[i]? = some (some (d, w))) : w = false ∧ i ∉ own ∧ ∃ w', ρ[i]? = some (some (d, w')) := by
  unfold frzE at h
  rw [List.getElem?_mapIdx] at h
  cases q : ρ[i]? with
  | none => rw [q] at h; cases h
  | some s =>
    rw [q] at h
    have h : some (if own.contains i = true then none else s.map fun p => (p.1, false)) = some (some (d, w)) := h
    have h := Option.some.inj h
    by_cases c : own.contains i = true
    · rw [if_pos c] at h; cases h
    · rw [if_neg c] at h
      cases s with
      | none => cases h
      | some p =>
        obtain ⟨d', w'⟩ := p
        cases h
        exact ⟨rfl, by simpa using c, w', rfl⟩
theorem frzE_own {own : List Nat} {ρ : EnvD} {σ : L2.St} {i : Nat} {b : Addr} (h : OwnAt (frzE own ρ) σ i b) : False := by
  obtain ⟨⟨d, h⟩, _⟩ := h
  have := (frzE_get h).1
  cases this

section
variable {F : Fx} {L : List Addr} {AL A : Addr → Prop} {ρ ρ' : EnvD} {st st' : Store} {σ σ' : L2.St} {H H' : Hp} {D : Addr}
theorem Rel.wiped (R : Rel F L AL ρ st σ H) (own : List Nat) : Rel F L AL (frzE own ρ) st (wipe σ own) H := by
  have nu : ∀ b, b ∉ L ++ F.Z → NU (L ++ F.Z) (frzE own ρ) (wipe σ own) b := fun b h => ⟨h, fun i hi => frzE_own hi⟩
  refine ⟨by rw [wipe_length]; simp [frzE, R.len], fun i d h => ?_, fun i d h => ?_, fun i j a h => (frzE_own h).elim, R.ext, R.lx, R.lnd, R.ll, R.cell, fun b h => ⟨(R.al b h).1, fun i hi => frzE_own hi⟩, R.ald, R.tab, R.zt, by simpa [frzE] using R.nn⟩
  · obtain ⟨_, h1, w, h2⟩ := frzE_get h
    rw [wipe_get, if_neg h1]
    cases w with
    | false =>
      obtain ⟨v, e, r⟩ := R.val i d h2
      exact ⟨v, e, r.imp fun b k _ => nu b k.1⟩
    | true =>
      obtain ⟨a, o, e, ho, m, n, _⟩ := R.own i d h2
      exact ⟨.ref a, e, (m.imp fun b k _ => nu b k.1).rep ho (nu a n)⟩
  · cases (frzE_get h).1
/-- what stays in a block: all but the cells and the new list -/
def Kz (L : List Addr) (D : Addr) (H H' : Hp) : Prop := (∀ b o, H b = some o → b ∉ L → b ≠ D → isTbl o = false → H' b = some o) ∧ ∀ b, H b ≠ none → H' b ≠ none
theorem Kz.refl (H : Hp) : Kz L D H H := ⟨fun _ _ h _ _ _ => h, fun _ h => h⟩
theorem Kz.trans {H1 H2 H3 : Hp} (a : Kz L D H1 H2) (b : Kz L D H2 H3) : Kz L D H1 H3 := ⟨fun c o h n d t => b.1 c o (a.1 c o h n d t) n d t, fun c h => b.2 c (a.2 c h)⟩
theorem Ext.kz (e : Ext L H H') : Kz L D H H' := ⟨fun b o h n _ t => e.keep b o h n t, e.dom⟩
theorem kz_upd {acc acc' : List V} (h : H D = some (.lst acc)) : Kz L D H (upd H D (.lst acc')) := ⟨fun b o e _ n _ => by rw [upd_ne n]; exact e, fun b e => by
  by_cases q : b = D
  · subst q; rw [upd_same]; exact fun z => nomatch z
  · rw [upd_ne q]; exact e⟩
theorem Kz.kp {acc : List V} (k : Kz L D H H') (tr : ∀ b, b ∈ L → ∃ vs, H b = some (.lst vs)) (hD : H D = some (.lst acc)) (hA : ∀ b, A b → b ∉ L ∧ b ≠ D) : Kp A H H' := fun b o h m t => by
  by_cases hb : b ∈ L
  · obtain ⟨vs, hv⟩ := tr b hb
    rw [hv] at h
    cases h
    exact absurd hb (hA b (m rfl)).1
  · by_cases hd : b = D
    · subst hd
      rw [hD] at h
      cases h
      exact absurd rfl (hA b (m rfl)).2
    · exact k.1 b o h hb hd (skip_tbl t)
theorem Rel.back {acc : List V} (R : Rel F L AL ρ st σ H) (hZ : D ∈ F.Z) (hD : H D = some (.lst acc)) (k : Kz L D H H') (R' : Rel F L AL ρ' st' σ' H') : Rel F L AL ρ st' σ H' := by
  have ne : ∀ b, b ∉ L ++ F.Z → b ∉ L ∧ b ≠ D := fun b h => ⟨notApp h, fun z => h (List.mem_append_right _ (by rw [z]; exact hZ))⟩
  have kp : Kp (NU (L ++ F.Z) ρ σ) H H' := k.kp R.tr hD fun b h => ne b h.1
  refine ⟨R.len, fun i d h => ?_, fun i d h => ?_, R.ne, R'.ext, R.lx, R.lnd, R'.ll, R'.cell, R.al, R'.ald, R'.tab, R'.zt, R.nn⟩
  · obtain ⟨v, h1, h2⟩ := R.val i d h
    exact ⟨v, h1, h2.keep kp⟩
  · obtain ⟨a, o, h1, h2, h3, h4, h5⟩ := R.own i d h
    exact ⟨a, o, h1, k.1 a o h2 (ne a h4).1 (ne a h4).2 (by cases h3 <;> rfl), h3.keep kp, h4, h5⟩
/-- the new list grows -/
theorem Rel.wrD {acc acc' : List V} (R : Rel F L AL ρ st σ H) (hZ : D ∈ F.Z) (hL : D ∉ L) (h0 : F.H0 D = none) (hD : H D = some (.lst acc)) : Rel F L AL ρ st σ (upd H D (.lst acc')) := by
  have k : Kz L D H (upd H D (.lst acc')) := kz_upd hD
  have ne : ∀ b, b ∉ L ++ F.Z → b ∉ L ∧ b ≠ D := fun b h => ⟨notApp h, fun z => h (List.mem_append_right _ (by rw [z]; exact hZ))⟩
  refine R.back hZ hD k ⟨R.len, fun i d h => ?_, fun i d h => ?_, R.ne, ⟨fun b o h n t => ?_, fun b h => k.2 b (R.ext.dom b h)⟩, R.lx, R.lnd, R.ll, fun i a ds h1 h2 => ?_, R.al, fun b h => k.2 b (R.ald b h), Tabs_kp R.tab fun b o h m => ?_, fun b h => k.2 b (R.zt b h), R.nn⟩
  · obtain ⟨v, h1, h2⟩ := R.val i d h
    exact ⟨v, h1, h2.keep (k.kp R.tr hD fun b h => ne b h.1)⟩
  · obtain ⟨a, o, h1, h2, h3, h4, h5⟩ := R.own i d h
    exact ⟨a, o, h1, k.1 a o h2 (ne a h4).1 (ne a h4).2 (by cases h3 <;> rfl), h3.keep (k.kp R.tr hD fun b h => ne b h.1), h4, h5⟩
  · rw [upd_ne (by intro z; rw [z, h0] at h; cases h)]
    exact R.ext.keep b o h n t
  · obtain ⟨vs, h3, h4, h5⟩ := R.cell i a ds h1 h2
    have hne : a ≠ D := fun z => hL (by rw [← z]; exact List.mem_of_getElem? h1)
    exact ⟨vs, by rw [upd_ne hne]; exact h3, h4, h5.keep (k.kp R.tr hD fun b h => ne b (R.al b h).1)⟩
  · rw [upd_ne]
    · exact h
    · intro z
      rw [z, hD] at h
      cases h
      cases m
/-- into the block -/
theorem Rel.inZ (R : Rel F L AL ρ st σ H) (hn : ∀ i b, ¬ OwnAt ρ σ i b) (hn' : ∀ (i : Nat) (d : PyData), ρ[i]? ≠ some (some (d, true))) (hD : H D = none) : Rel (F.at (D :: F.Z)) L AL ρ st σ (upd H D (.lst [])) := by
  have R2 : Rel F L AL ρ st σ (upd H D (.lst [])) := R.same (same_upd hD)
  have out : ∀ b, b ∉ L ++ F.Z → H b ≠ none → b ∉ L ++ (D :: F.Z) := fun b h z hb => by
    simp only [List.mem_append, List.mem_cons, not_or] at h hb
    rcases hb with hb | hb | hb
    · exact h.1 hb
    · rw [hb] at z; exact z hD
    · exact h.2 hb
  refine ⟨R.len, fun i d h => ?_, fun i d h => (hn' i d h).elim, R.ne, R2.ext, R.lx, R.lnd, R.ll, R2.cell, fun b h => ⟨out b (R.al b h).1 (R.ald b h), (R.al b h).2⟩, R2.ald, R2.tab, fun b h => ?_, R.nn⟩
  · obtain ⟨v, h1, h2⟩ := R.val i d h
    refine ⟨v, h1, Rep.keep (H := H) (fun b o hb _ _ => same_upd hD b o hb) (h2.imp fun b k z => ⟨out b k.1 z, k.2⟩)⟩
  · rcases List.mem_cons.mp h with rfl | h
    · rw [upd_same]; exact fun z => nomatch z
    · exact R2.zt b h
end

/-! the readings within a block: whatever list is new -/
def tGz (F : Fx) (pr : Bool) (W : List Nat) (g : DG) : TG := fun v σ H Q => ∃ Z, tG (F.at Z) pr W g v σ H Q
def tBz (F : Fx) (c : DB) : TT := fun σ H Q => ∃ Z, tDB (F.at Z) c σ H Q
def tEz (F : Fx) (M : List Nat) (fr : Bool) (e : DE) : TE := fun σ H Q => ∃ Z, tD (F.at Z) M fr e σ H Q
def tIz (F : Fx) (pr : Bool) (M : List Nat) (i : DI) : TI := fun σ H R => ∃ Z, tI (F.at Z) pr M i σ H R

/-- what is fixed through a comprehension: D is the new list -/
structure Blk (F : Fx) (L : List Addr) (AL : Addr → Prop) (ρ : EnvD) (σ : L2.St) (H H1 : Hp) (D : Addr) : Prop where
  nD : H1 D = none
  nL : D ∉ L
  n0 : F.H0 D = none
  nn : ρ.length = F.n
abbrev Blk.A (F : Fx) (L : List Addr) (ρ : EnvD) (σ : L2.St) (H : Hp) (D : Addr) (b : Addr) : Prop := AP (L ++ F.Z) ρ σ (List.range F.n) H b ∧ b ≠ D
/-- a point of the block -/
def BaseAt (F : Fx) (L : List Addr) (AL : Addr → Prop) (ρ : EnvD) (σ : L2.St) (H H1 : Hp) (D : Addr) (ρb : EnvD) (σb : L2.St) (st : Store) (rs : List PyData) (Hh : Hp) : Prop :=
  Rel (F.at (D :: F.Z)) L AL ρb st σb Hh ∧ Kz L D (upd H1 D (.lst [])) Hh ∧ ∃ acc, Hh D = some (.lst acc) ∧ acc.length ≤ sizeLine ∧ Reps F.G L Hh (Blk.A F L ρ σ H D) rs acc

section
variable {F : Fx} {L : List Addr} {AL : Addr → Prop} {ρ : EnvD} {σ : L2.St} {H H1 : Hp} {D : Addr}
theorem Blk.sub (B : Blk F L AL ρ σ H H1 D) {b : Addr} (h : b ∉ L ++ (D :: F.Z)) : Blk.A F L ρ σ H D b := by
  simp only [List.mem_append, List.mem_cons, not_or] at h
  refine ⟨⟨by simp only [List.mem_append, not_or]; exact ⟨h.1, h.2.2⟩, .inr fun i hi => ?_⟩, h.2.1⟩
  obtain ⟨⟨d, e⟩, _⟩ := hi
  have := (List.getElem?_eq_some_iff.mp e).1
  rw [List.mem_range, ← B.nn]
  exact this
theorem BaseAt.ext {ρb : EnvD} {σb : L2.St} {st st' : Store} {rs : List PyData} {Hh Hk : Hp} (P : BaseAt F L AL ρ σ H H1 D ρb σb st rs Hh) (B : Blk F L AL ρ σ H H1 D) (R : Rel (F.at (D :: F.Z)) L AL ρb st' σb Hk) (e : Ext L Hh Hk) : BaseAt F L AL ρ σ H H1 D ρb σb st' rs Hk := by
  obtain ⟨R0, k, acc, h1, h2, h3⟩ := P
  exact ⟨R, k.trans e.kz, acc, e.keep _ _ h1 B.nL rfl, h2, h3.keep (e.kp R0.tr fun b h => notApp h.1.1)⟩
theorem noX_read {f : DB} {β : Type} {K : β → Store → Prop} {k : Bool → Store → ER β} {F' : Fx} {ρ1 : EnvD} {σ1 : L2.St} {st : Store} {H2 : Hp} {Q1 : Bool → Hp → Prop} (R : Rel F' L AL ρ1 st σ1 H2) (h : okP K ((noX (f ρ1 st)).bind k))
    (hk : ∀ b st' H', Rel F' L AL ρ1 st' σ1 H' → Ext L H2 H' → okP K (k b st') → Q1 b H') : tDB F' f σ1 H2 Q1 := by
  refine ⟨L, AL, ρ1, st, R, ?_⟩
  cases e : f ρ1 st with
  | ok b st' =>
    rw [e] at h
    exact fun H' R' E' => hk b st' H' R' E' h
  | exn x st' =>
    rw [e] at h
    exact h.elim
  | stuck =>
    rw [e] at h
    exact h.elim
theorem bd_last {c : DB} {e : DE} {M : List Nat} {fr : Bool} (B : Blk F L AL ρ σ H H1 D) {ρ1 : EnvD} {σ2 : L2.St} {st : Store} {rs : List PyData} {H2 : Hp} {K : List PyData → Store → Prop} {Nx : Hp → Prop} (P : BaseAt F L AL ρ σ H H1 D ρ1 σ2 st rs H2) (h : okP K (bdLast c e ρ1 st rs))
    (hN : ∀ st' rs' H', BaseAt F L AL ρ σ H H1 D ρ1 σ2 st' rs' H' → Kz L D H2 H' → K rs' st' → Nx H') :
    tBz F c σ2 H2 fun b H3 => if b = true then tEz F M fr e σ2 H3 fun y H4 => ∃ acc, H4 D = some (.lst acc) ∧ acc.length < sizeLine ∧ Nx (upd H4 D (.lst (acc ++ [y]))) else Nx H3 := by
  refine ⟨D :: F.Z, noX_read P.1 h fun b st3 H3 R3 E3 h => ?_⟩
  have P3 := P.ext B R3 E3
  cases b with
  | false => exact iteF (hN st3 rs H3 P3 E3.kz h)
  | true =>
    refine iteT ⟨D :: F.Z, L, AL, ρ1, st3, R3, ?_⟩
    have h : okP K ((noX (e ρ1 st3)).bind fun y st => if rs.length < sizeLine then .ok (rs ++ [y]) st else .stuck) := h
    have h := h.bind.noX
    cases q : e ρ1 st3 with
    | exn x st' => rw [q] at h; exact h.elim
    | stuck => rw [q] at h; exact h.elim
    | ok y st4 =>
      rw [q] at h
      have h : okP K (if rs.length < sizeLine then .ok (rs ++ [y]) st4 else .stuck) := h
      intro v H4 R4 E4 ry _
      obtain ⟨_, k4, acc, hD, hz, ra⟩ := P3.ext B R4 E4
      by_cases hl : rs.length < sizeLine
      · rw [if_pos hl] at h
        have hl' : acc.length < sizeLine := by rw [← ra.length]; exact hl
        have kk : Kz L D H4 (upd H4 D (.lst (acc ++ [v]))) := kz_upd hD
        have kpA : Kp (Blk.A F L ρ σ H D) H4 (upd H4 D (.lst (acc ++ [v]))) := kk.kp R4.tr hD fun b hb => ⟨notApp hb.1.1, hb.2⟩
        refine ⟨acc, hD, hl', hN st4 _ _ ⟨R4.wrD List.mem_cons_self B.nL B.n0 hD, k4.trans kk, _, upd_same, by simp; omega, ?_⟩ ((E3.trans E4).kz.trans kk) h⟩
        exact (ra.keep kpA).append (.cons ((ry.imp fun b hb _ => B.sub hb.1).keep kpA) .nil)
      · rw [if_neg hl] at h
        exact h.elim

/-- the loop of a clause; TB: what a turn does behind the target -/
theorem lc_loop {g : DG} {bd : DBd} {pr : Bool} {Wt vs : List Nat} {A : Addr → Prop} {J : It} {H4 : Hp} {ds : List PyData} {ρb : EnvD} {σb σ0 : L2.St} {K : List PyData → Store → Prop} {Nx : Hp → Prop} {TB : (Hp → Prop) → L2.St → Hp → Prop}
    (B : Blk F L AL ρ σ H H1 D) (DW : DWalk F.G L A pr J H4 ds) (hA : ∀ b, A b → b ∉ L ++ (D :: F.Z)) (hb : σb = wipe σ0 vs) (hn : ∀ i b, ¬ OwnAt ρb σb i b) (hW : ∀ i, i ∈ Wt → i ∈ vs)
    (turn : ∀ ρ1 st rs H2 σ2 (NxT : Hp → Prop) (K' : List PyData → Store → Prop), BaseAt F L AL ρ σ H H1 D ρ1 σ2 st rs H2 → okP K' (bd ρ1 st rs) → (∀ st' rs' H', BaseAt F L AL ρ σ H H1 D ρ1 σ2 st' rs' H' → Kz L D H2 H' → K' rs' st' → NxT H') → TB NxT σ2 H2)
    {st : Store} {rs : List PyData} (P : BaseAt F L AL ρ σ H H1 D ρb σb st rs H4) (h : okP K (lcGo g ρb bd ds st rs)) (hN : ∀ st' rs' H', BaseAt F L AL ρ σ H H1 D ρb σb st' rs' H' → Kz L D H4 H' → K rs' st' → Nx H') :
    ∃ W : Nat → Nat → Hp → Prop, (∃ m, W 0 m H4) ∧ ∀ i m Hh, W i m Hh → (J.stop i Hh ∧ Nx Hh) ∨ (J.go i Hh ∧ ∃ NxT : Hp → Prop, (∀ H', NxT H' → ∃ m', m' < m ∧ W (i + 1) m' H') ∧
      ∀ x H', J.yld i Hh x H' → tGz F pr Wt g x σb H' fun σ2 H2 => wipe σ2 vs = wipe σ0 vs ∧ TB NxT σ2 H2) := by
  obtain ⟨S, s0, sK, sG, sS, sY⟩ := DW
  let Wp : Nat → Hp → Prop := fun i Hh => i ≤ ds.length ∧ S Hh ∧ ∃ st rs, BaseAt F L AL ρ σ H H1 D ρb σb st rs Hh ∧ Kz L D H4 Hh ∧ okP K (lcGo g ρb bd (ds.drop i) st rs)
  refine ⟨fun i m Hh => m = ds.length - i ∧ Wp i Hh, ⟨_, rfl, Nat.zero_le _, s0, st, rs, P, .refl _, h⟩, ?_⟩
  rintro i m Hh ⟨rfl, hi, s, st, rs, P, k, h⟩
  by_cases hlt : i < ds.length
  · refine .inr ⟨sG i Hh hlt s, Wp (i + 1), fun H' w => ⟨ds.length - (i + 1), by omega, rfl, w⟩, fun x H' y => ?_⟩
    obtain ⟨sm, d, hd, ir⟩ := sY i Hh x H' hlt s y
    have e : ds.drop i = d :: ds.drop (i + 1) := by
      rw [List.drop_eq_getElem_cons hlt]
      rw [List.getElem?_eq_getElem hlt] at hd
      rw [Option.some.inj hd]
    rw [e] at h
    have P' := P.ext B (P.1.same sm) (.of_same sm)
    have h : okP K ((ER.of (g d ρb) st).bind fun ρ1 st => (bd ρ1 st rs).bind fun rs st => lcGo g ρb bd (ds.drop (i + 1)) st rs) := h
    cases q : g d ρb with
    | none => rw [q] at h; exact h.elim
    | some ρ1 =>
      rw [q] at h
      have h : okP K ((bd ρ1 st rs).bind fun rs st => lcGo g ρb bd (ds.drop (i + 1)) st rs) := h
      refine ⟨D :: F.Z, L, AL, ρb, st, d, A, P'.1, ir, fun b hb _ => ⟨hA b hb, fun j => hn j b⟩, ρ1, q, fun σ2 R2 _ l2 w2 => ⟨?_, ?_⟩⟩
      · refine wipe_off (by rw [l2, hb, wipe_length]) fun j hj => ?_
        rw [w2 j fun z => hj (hW j z), hb]
      · obtain ⟨_, k1, acc, a1, a2, a3⟩ := P'
        refine turn ρ1 st rs H' σ2 _ _ ⟨R2, k1, acc, a1, a2, a3⟩ h.bind fun st' rs' H5 P5 k5 q5 => ?_
        obtain ⟨Rb, kb, acb, b1, b2, b3⟩ := P
        have kk : Kz L D Hh H5 := (Ext.of_same sm).kz.trans k5
        refine ⟨hlt, sK Hh H5 s (kk.kp Rb.tr b1 fun b hb => ?_), st', rs', ⟨Rb.back List.mem_cons_self b1 kk P5.1, P5.2⟩, k.trans kk, q5⟩
        have := hA b hb
        exact ⟨notApp this, fun z => this (List.mem_append_right _ (by rw [z]; exact List.mem_cons_self))⟩
  · have e : i = ds.length := by omega
    subst e
    rw [List.drop_length] at h
    exact .inl ⟨sS Hh s, hN st rs Hh P k h⟩
/-- the second clause -/
theorem bd_for {c : DB} {i : DI} {vs Wt M : List Nat} {g : DG} {bd : DBd} {pr : Bool} {TB : (Hp → Prop) → L2.St → Hp → Prop} (B : Blk F L AL ρ σ H H1 D) (hW : ∀ i, i ∈ Wt → i ∈ vs)
    (turn : ∀ ρ1 st rs H2 σ2 (NxT : Hp → Prop) (K' : List PyData → Store → Prop), BaseAt F L AL ρ σ H H1 D ρ1 σ2 st rs H2 → okP K' (bd ρ1 st rs) → (∀ st' rs' H', BaseAt F L AL ρ σ H H1 D ρ1 σ2 st' rs' H' → Kz L D H2 H' → K' rs' st' → NxT H') → TB NxT σ2 H2)
    {ρ1 : EnvD} {σ2 : L2.St} {st : Store} {rs : List PyData} {H2 : Hp} {K : List PyData → Store → Prop} {Nx : Hp → Prop} (P : BaseAt F L AL ρ σ H H1 D ρ1 σ2 st rs H2) (h : okP K (bdFor c i vs g bd ρ1 st rs))
    (hN : ∀ st' rs' H', BaseAt F L AL ρ σ H H1 D ρ1 σ2 st' rs' H' → Kz L D H2 H' → K rs' st' → Nx H') :
    tBz F c σ2 H2 fun b H3 => if b = true then tIz F pr M i σ2 H3 fun J1 H4 => ∃ W1 : Nat → Nat → Hp → Prop, (∃ m, W1 0 m H4) ∧ ∀ j k H, W1 j k H →
      (J1.stop j H ∧ Nx H) ∨ (J1.go j H ∧ ∃ Nx1 : Hp → Prop, (∀ H', Nx1 H' → ∃ k', k' < k ∧ W1 (j + 1) k' H') ∧ ∀ x H', J1.yld j H x H' → tGz F pr Wt g x (wipe σ2 vs) H' fun σ3 H5 => wipe σ3 vs = wipe σ2 vs ∧ TB Nx1 σ3 H5) else Nx H3 := by
  refine ⟨D :: F.Z, noX_read P.1 h fun b st3 H3 R3 E3 h => ?_⟩
  have P3 := P.ext B R3 E3
  cases b with
  | false => exact iteF (hN st3 rs H3 P3 E3.kz h)
  | true =>
    refine iteT ⟨D :: F.Z, L, AL, ρ1, st3, R3, ?_⟩
    have h : okP K ((noX (i ρ1 st3)).bind fun ds st => lcGo g (frzE vs ρ1) bd ds st rs) := h
    have h := h.bind.noX
    cases q : i ρ1 st3 with
    | exn x st' => rw [q] at h; exact h.elim
    | stuck => rw [q] at h; exact h.elim
    | ok ds st4 =>
      rw [q] at h
      have h : okP K (lcGo g (frzE vs ρ1) bd ds st4 rs) := h
      intro J H4 R4 E4 DW
      have P4 := P3.ext B R4 E4
      refine lc_loop (σb := wipe σ2 vs) (σ0 := σ2) B DW (fun b hb => hb.1.1) rfl (fun j b hj => frzE_own hj) hW turn ⟨R4.wiped vs, P4.2⟩ h fun st' rs' H' P' k' q' => ?_
      have kk : Kz L D H2 H' := (E3.trans E4).kz.trans k'
      obtain ⟨acc, a1, _⟩ := P.2.2
      exact hN st' rs' H' ⟨P.1.back List.mem_cons_self a1 kk P'.1, P'.2⟩ kk q'

variable {X : Cx} {M M1 : List Nat} {pr pr1 fr : Bool} {i i1 : DI} {g g1 : DG} {c c1 : DB} {e : DE} {W W1 : List Nat}
/-- the whole, from the iterator on -/
theorem lc_top {bd : DBd} {own Wt : List Nat} {TB : Addr → (Hp → Prop) → L2.St → Hp → Prop} {Q : VK} (hW : ∀ i, i ∈ Wt → i ∈ own)
    (turn : ∀ (L : List Addr) (AL : Addr → Prop) (ρ : EnvD) (σ : L2.St) (H H1 : Hp) (D : Addr), Blk F L AL ρ σ H H1 D → ∀ (ρ1 : EnvD) (st : Store) (rs : List PyData) (H2 : Hp) (σ2 : L2.St) (NxT : Hp → Prop) (K' : List PyData → Store → Prop), BaseAt F L AL ρ σ H H1 D ρ1 σ2 st rs H2 → okP K' (bd ρ1 st rs) → (∀ st' rs' H', BaseAt F L AL ρ σ H H1 D ρ1 σ2 st' rs' H' → Kz L D H2 H' → K' rs' st' → NxT H') → TB D NxT σ2 H2)
    (h : tD F (List.range F.n) true (eLc i own g bd) σ H Q) :
    tI F pr M i σ H fun J H1 => ∀ D, H1 D = none → ∃ W : Nat → Nat → Hp → Prop, (∃ m, W 0 m (upd H1 D (.lst []))) ∧ ∀ i m H, W i m H →
      (J.stop i H ∧ Q (.ref D) H) ∨ (J.go i H ∧ ∃ Nx : Hp → Prop, (∀ H', Nx H' → ∃ m', m' < m ∧ W (i + 1) m' H') ∧ ∀ x H', J.yld i H x H' → tGz F pr Wt g x (wipe σ own) H' fun σ2 H2 => wipe σ2 own = wipe σ own ∧ TB D Nx σ2 H2) := by
  obtain ⟨L, AL, ρ, st, R, h⟩ := h
  refine ⟨L, AL, ρ, st, R, ?_⟩
  have h : DPost F L AL ρ σ H (List.range F.n) true Q ((i ρ st).bind fun ds st => (noX (lcGo g (frzE own ρ) bd ds st [])).bind fun rs st => .ok (.list rs) st) := h
  cases q : i ρ st with
  | exn x st' => rw [q] at h; exact h
  | stuck => rw [q] at h; exact h
  | ok ds st1 =>
    rw [q] at h
    have h : DPost F L AL ρ σ H (List.range F.n) true Q ((noX (lcGo g (frzE own ρ) bd ds st1 [])).bind fun rs st => .ok (.list rs) st) := h
    intro J H1 R1 E1 DW D hD
    have B : Blk F L AL ρ σ H H1 D := ⟨hD, R1.notL hD, (E1.free hD : H D = none) |> fun z => R.ext.free z, R.nn⟩
    have hk : okP (fun rs st => DPost F L AL ρ σ H (List.range F.n) true Q (.ok (.list rs) st)) (lcGo g (frzE own ρ) bd ds st1 []) := by
      cases z : lcGo g (frzE own ρ) bd ds st1 [] with
      | ok rs st' => rw [z] at h; exact h
      | exn x st' => rw [z] at h; exact h
      | stuck => rw [z] at h; exact h
    have R2 := (R1.wiped own).inZ (fun j b hj => frzE_own hj) (fun j d hj => by cases (frzE_get hj).1) hD
    obtain ⟨S, s0, sK, sG, sS, sY⟩ := DW
    have DW2 : DWalk F.G L (APn (L ++ F.Z) ρ σ M H H1) pr J (upd H1 D (.lst [])) ds := ⟨S, sK _ _ s0 (fun b o hb _ _ => same_upd hD b o hb), sK, sG, sS, sY⟩
    refine lc_loop (σb := wipe σ own) (σ0 := σ) B DW2 (fun b hb => ?_) rfl (fun j b hj => frzE_own hj) hW (turn L AL ρ σ H H1 D B) ⟨R2, .refl _, [], upd_same, Nat.zero_le _, .nil⟩ hk fun st' rs' H' P' k' q' => ?_
    · have h1 := hb.1.1
      simp only [List.mem_append, List.mem_cons, not_or] at h1 ⊢
      exact ⟨h1.1, fun z => by rw [z] at hb; exact hb.2 hD, h1.2⟩
    · obtain ⟨R', k1, acc, a1, a2, a3⟩ := P'
      have E' : Ext L H1 H' := ⟨fun b o hb hn ht => k'.1 b o (same_upd hD b o hb) hn (fun z => by rw [z, hD] at hb; cases hb) ht, fun b hb => k'.2 b (by
        cases z : H1 b with
        | none => exact absurd z hb
        | some o => rw [same_upd hD b o z]; exact fun z => nomatch z)⟩
      have Rf : Rel F L AL ρ st' σ H' := R1.step E' R'.ll R'.cell R'.tab
      have nDm : H D = none := E1.free hD
      refine q' _ H' Rf (E1.trans E') (.lst ⟨a1, fun hm => ?_, .inl nDm⟩ a2 (a3.imp fun b hb _ => hb.1)) fun _ _ => ⟨D, _, rfl, nDm, a1, .lst a2 a3⟩
      exact R1.notZ hD hm
end

section
variable {X : Cx} {F : Fx} {M M1 M2 : List Nat} {pr pr1 fr : Bool} {i i1 : DI} {g g1 : DG} {c c1 : DB} {e : DE} {W W1 : List Nat}
theorem _root_.L2.PTs.imp {X : Cx} {ifs : List Expr} {t t' : TT} (h : PTs X ifs t) (k : ∀ σ H Q, t' σ H Q → t σ H Q) : PTs X ifs t' := ⟨fun pins s σ H Q I q => h.run pins s σ H Q I (k _ _ _ q)⟩
theorem pts_nilD : PTs X [] (tDB F cYes) := pts_nil.imp fun σ H Q ⟨L, AL, ρ, st, R, h⟩ => h H R (.refl _)
theorem pts_oneD {a : Expr} (h : PT X a (tDB F c)) : PTs X [a] (tDB F c) := pts_one h
theorem pg_z {tg : Expr} (h : ∀ Z, PG X tg (tG (F.at Z) pr W g)) : PG X tg (tGz F pr W g) := ⟨fun pins s σ H v u Q I r ⟨Z, q⟩ => (h Z).run pins s σ H v u Q I r q⟩
theorem pts_z {ifs : List Expr} (h : ∀ Z, PTs X ifs (tDB (F.at Z) c)) : PTs X ifs (tBz F c) := ⟨fun pins s σ H Q I ⟨Z, q⟩ => (h Z).run pins s σ H Q I q⟩
theorem pe_z {a : Expr} (h : ∀ Z, PE X a (tD (F.at Z) M fr e)) : PE X a (tEz F M fr e) := ⟨fun pins s σ H Q I ⟨Z, q⟩ => (h Z).run pins s σ H Q I q⟩
theorem pi_z {tg it : Expr} (h : ∀ Z, PI X tg it (tI (F.at Z) pr M i)) : PI X tg it (tIz F pr M i) := ⟨fun pins s σ H R I ⟨Z, q⟩ => (h Z).run pins s σ H R I q⟩
theorem pe_lcD {elt tg iter : Expr} {ifs : List Expr} {scope : Scope} {own : List (Str × Nat)} {pos : Pos} (hc : X.calm = true) (hN : X.N.Nodup) (hi : PI X tg iter (tI F pr M i)) (ok : BlkOk X.N X.env.scope scope own) (hW : ∀ i, i ∈ W → i ∈ own.map (·.2))
    (hg : ∀ (Z : List Addr) (s : Shared) (H : Hp) (C : Addr) (cl : List (Str × Addr)) (fp : List Addr), PG (X.blk s H scope (compEnvC scope cl C X.env) fp) tg (tG (F.at Z) pr W g)) (ht : ∀ (Z : List Addr) (s : Shared) (H : Hp) (C : Addr) (cl : List (Str × Addr)) (fp : List Addr), PTs (X.blk s H scope (compEnvC scope cl C X.env) fp) ifs (tDB (F.at Z) c))
    (he : ∀ (Z : List Addr) (s : Shared) (H : Hp) (C : Addr) (cl : List (Str × Addr)) (fp : List Addr), PE (X.blk s H scope (compEnvC scope cl C X.env) fp) elt (tD (F.at Z) M1 fr e)) (hs : ∀ x, foldedSetIterable iter X.env x = pure x := by intro _; rfl) :
    PE X (.ListComp elt [⟨tg, iter, ifs, 0⟩] scope pos) (tD F (List.range F.n) true (eLc i (own.map (·.2)) g (bdLast c e))) :=
  (pe_lc hc hN hi ok (fun s H C cl fp => pg_z fun Z => hg Z s H C cl fp) (fun s H C cl fp => pts_z fun Z => ht Z s H C cl fp) (fun s H C cl fp => pe_z fun Z => he Z s H C cl fp) hs).imp fun σ H Q h =>
    lc_top (TB := fun D Nx σ2 H2 => tBz F c σ2 H2 fun b H3 => if b = true then tEz F M1 fr e σ2 H3 fun y H4 => ∃ acc, H4 D = some (.lst acc) ∧ acc.length < sizeLine ∧ Nx (upd H4 D (.lst (acc ++ [y]))) else Nx H3) hW
      (fun L AL ρ σ H H1 D B ρ1 st rs H2 σ2 NxT K' P h hN => bd_last B P h hN) h
theorem pe_lc2D {elt tg iter tg1 iter1 : Expr} {ifs ifs1 : List Expr} {scope : Scope} {own : List (Str × Nat)} {vs1 : List Nat} {pos : Pos} (hc : X.calm = true) (hN : X.N.Nodup) (hi : PI X tg iter (tI F pr M i)) (ok : BlkOk X.N X.env.scope scope own) (hv : ∀ i ∈ vs1, i ∈ own.map (·.2)) (hW : ∀ i, i ∈ W → i ∈ own.map (·.2)) (hW1 : ∀ i, i ∈ W1 → i ∈ vs1)
    (hg : ∀ (Z : List Addr) (s : Shared) (H : Hp) (C : Addr) (cl : List (Str × Addr)) (fp : List Addr), PG (X.blk s H scope (compEnvC scope cl C X.env) fp) tg (tG (F.at Z) pr W g)) (ht : ∀ (Z : List Addr) (s : Shared) (H : Hp) (C : Addr) (cl : List (Str × Addr)) (fp : List Addr), PTs (X.blk s H scope (compEnvC scope cl C X.env) fp) ifs (tDB (F.at Z) c))
    (hi1 : ∀ (Z : List Addr) (s : Shared) (H : Hp) (C : Addr) (cl : List (Str × Addr)) (fp : List Addr), PI (X.blk s H scope (compEnvC scope cl C X.env) fp) tg1 iter1 (tI (F.at Z) pr1 M2 i1))
    (hg1 : ∀ (Z : List Addr) (s : Shared) (H : Hp) (C : Addr) (cl : List (Str × Addr)) (fp : List Addr), PG (X.blk s H scope (compEnvC scope cl C X.env) fp) tg1 (tG (F.at Z) pr1 W1 g1)) (ht1 : ∀ (Z : List Addr) (s : Shared) (H : Hp) (C : Addr) (cl : List (Str × Addr)) (fp : List Addr), PTs (X.blk s H scope (compEnvC scope cl C X.env) fp) ifs1 (tDB (F.at Z) c1))
    (he : ∀ (Z : List Addr) (s : Shared) (H : Hp) (C : Addr) (cl : List (Str × Addr)) (fp : List Addr), PE (X.blk s H scope (compEnvC scope cl C X.env) fp) elt (tD (F.at Z) M1 fr e)) (hs : ∀ x, foldedSetIterable iter X.env x = pure x := by intro _; rfl) (hs1 : ∀ env x, foldedSetIterable iter1 env x = pure x := by intro _ _; rfl) :
    PE X (.ListComp elt [⟨tg, iter, ifs, 0⟩, ⟨tg1, iter1, ifs1, 0⟩] scope pos) (tD F (List.range F.n) true (eLc i (own.map (·.2)) g (bdFor c i1 vs1 g1 (bdLast c1 e)))) :=
  (pe_lc2 hc hN hi ok hv (fun s H C cl fp => pg_z fun Z => hg Z s H C cl fp) (fun s H C cl fp => pts_z fun Z => ht Z s H C cl fp) (fun s H C cl fp => pi_z fun Z => hi1 Z s H C cl fp) (fun s H C cl fp => pg_z fun Z => hg1 Z s H C cl fp) (fun s H C cl fp => pts_z fun Z => ht1 Z s H C cl fp) (fun s H C cl fp => pe_z fun Z => he Z s H C cl fp) hs hs1).imp fun σ H Q h =>
    lc_top (TB := fun D Nx σ2 H2 => tBz F c σ2 H2 fun b H3 => if b = true then tIz F pr1 M2 i1 σ2 H3 fun J1 H4 => ∃ Wx : Nat → Nat → Hp → Prop, (∃ m, Wx 0 m H4) ∧ ∀ j k H, Wx j k H →
      (J1.stop j H ∧ Nx H) ∨ (J1.go j H ∧ ∃ Nx1 : Hp → Prop, (∀ H', Nx1 H' → ∃ k', k' < k ∧ Wx (j + 1) k' H') ∧ ∀ x H', J1.yld j H x H' → tGz F pr1 W1 g1 x (wipe σ2 vs1) H' fun σ3 H5 => wipe σ3 vs1 = wipe σ2 vs1 ∧
        tBz F c1 σ3 H5 fun b H6 => if b = true then tEz F M1 fr e σ3 H6 fun y H7 => ∃ acc, H7 D = some (.lst acc) ∧ acc.length < sizeLine ∧ Nx1 (upd H7 D (.lst (acc ++ [y]))) else Nx1 H6) else Nx H3) hW
      (fun L AL ρ σ H H1 D B ρ1 st rs H2 σ2 NxT K' P h hN => bd_for (TB := fun Nx1 σ3 H5 => tBz F c1 σ3 H5 fun b H6 => if b = true then tEz F M1 fr e σ3 H6 fun y H7 => ∃ acc, H7 D = some (.lst acc) ∧ acc.length < sizeLine ∧ Nx1 (upd H7 D (.lst (acc ++ [y]))) else Nx1 H6) B hW1
        (fun ρ1 st rs H2 σ2 NxT K' P h hN => bd_last B P h hN) P h hN) h
end
end Ev
end

section
set_option maxRecDepth 100000
set_option maxHeartbeats 4000000
namespace Ev
open PySem PySem.Spec PyProof.Rows L2

/-! ### statements -/
inductive SR where
  | nx (ρ : EnvD) (st : Store)
  | ret (d : PyData) (f : Bool) (st : Store)
  | brk (ρ : EnvD) (st : Store)
  | ct (ρ : EnvD) (st : Store)
  | exn (x : Exn) (st : Store)
  | stuck
abbrev DS := EnvD → Store → SR
/-- what a statement leaves of the heap and of whose the lists are -/
structure Frm (F : Fx) (L : List Addr) (ρ : EnvD) (σ : L2.St) (H : Hp) (ρ' : EnvD) (σ' : L2.St) (H' : Hp) : Prop where
  keep : ∀ b, H b ≠ none → NU (L ++ F.Z) ρ σ b → (∀ o, H b = some o → isTbl o = false → H' b = some o) ∧ NU (L ++ F.Z) ρ' σ' b
  frz : ∀ b o, H b = some o → mutO o = false → isTbl o = false → H' b = some o
  dom : ∀ b, H b ≠ none → H' b ≠ none
section
variable {F : Fx} {L : List Addr} {AL : Addr → Prop} {ρ ρ1 ρ2 : EnvD} {st st' : Store} {σ σ1 σ2 : L2.St} {H H1 H2 : Hp}
theorem Frm.refl : Frm F L ρ σ H ρ σ H := ⟨fun b _ h => ⟨fun _ h _ => h, h⟩, fun _ _ h _ _ => h, fun _ h => h⟩
theorem Frm.trans (a : Frm F L ρ σ H ρ1 σ1 H1) (b : Frm F L ρ1 σ1 H1 ρ2 σ2 H2) : Frm F L ρ σ H ρ2 σ2 H2 :=
  ⟨fun c h n => let ⟨k1, n1⟩ := a.keep c h n; let ⟨k2, n2⟩ := b.keep c (a.dom c h) n1; ⟨fun o e t => k2 o (k1 o e t) t, n2⟩, fun c o h m t => b.frz c o (a.frz c o h m t) m t, fun c h => b.dom c (a.dom c h)⟩
theorem Ext.frm (e : Ext L H H1) (R : Rel F L AL ρ st σ H) : Frm F L ρ σ H ρ σ H1 := ⟨fun b h n => ⟨fun o q t => e.keep b o q (notApp n.1) t, n⟩, fun b o h m t => e.keep b o h (fun hb => by
  obtain ⟨vs, q⟩ := R.tr b hb
  rw [q] at h
  cases h
  cases m) t, e.dom⟩
theorem Frm.kp {A : Addr → Prop} (f : Frm F L ρ σ H ρ1 σ1 H1) (hA : ∀ b, A b → H b ≠ none → NU (L ++ F.Z) ρ σ b) : Kp A H H1 := fun b o h m t => by
  by_cases q : mutO o = true
  · have hn : H b ≠ none := by rw [h]; exact fun z => nomatch z
    exact (f.keep b hn (hA b (m q) hn)).1 o h (skip_tbl t)
  · exact f.frz b o h (by simpa using q) (skip_tbl t)
end

/-- a returned value is new -/
def FreshR (F : Fx) (L : List Addr) (H' : Hp) (f : Bool) (d : PyData) (v : V) : Prop := f = true → mutD d = true → ∃ a o, v = .ref a ∧ F.H0 a = none ∧ H' a = some o ∧ MutRep F.G L H' (fun b => b ∉ L ++ F.Z ∧ b ≠ a) a d o
def SPost (F : Fx) (L : List Addr) (AL : Addr → Prop) (ρ : EnvD) (σ : L2.St) (H : Hp) (D : Ends) : SR → Prop
  | .nx ρ' st' => ∀ σ' H', Rel F L AL ρ' st' σ' H' → Frm F L ρ σ H ρ' σ' H' → D.nx σ' H'
  | .brk ρ' st' => ∀ σ' H', Rel F L AL ρ' st' σ' H' → Frm F L ρ σ H ρ' σ' H' → D.bk σ' H'
  | .ct ρ' st' => ∀ σ' H', Rel F L AL ρ' st' σ' H' → Frm F L ρ σ H ρ' σ' H' → D.ct σ' H'
  | .ret d f st' => ∀ ρ' σ' v H', Rel F L AL ρ' st' σ' H' → Rep F.G L H' (fun b => b ∉ L ++ F.Z) d v → FreshR F L H' f d v → D.rt v H'
  | .exn x st' => ∀ ρ' σ' cls dd H', Rel F L AL ρ' st' σ' H' → XRep F x cls dd H' → F.EX cls dd H'
  | .stuck => False
def tS (F : Fx) (g : DS) : TS := fun D σ H => ∃ L AL ρ st, Rel F L AL ρ st σ H ∧ SPost F L AL ρ σ H D (g ρ st)

def sNext : DS := fun ρ st => .nx ρ st
def sSeq (g k : DS) : DS := fun ρ st => match g ρ st with
  | .nx ρ st => k ρ st
  | r => r
def eS (r : ER PyData) (k : PyData → Store → SR) : SR := match r with
  | .ok d st => k d st
  | .exn x st => .exn x st
  | .stuck => .stuck
def sIf (c : DB) (g k : DS) : DS := fun ρ st => match c ρ st with
  | .ok b st => if b = true then g ρ st else k ρ st
  | .exn x st => .exn x st
  | .stuck => .stuck
def sDrop (f : DE) : DS := fun ρ st => eS (f ρ st) fun _ st => .nx ρ st
def sRet (fr : Bool) (f : DE) : DS := fun ρ st => eS (f ρ st) fun d st => .ret d fr st
def sRetV (i : Nat) : DS := fun ρ st => match ρ[i]? with
  | some (some (d, w)) => .ret d w st
  | _ => .stuck
def sRetN : DS := fun _ st => .ret .none false st
def sBrk : DS := fun ρ st => .brk ρ st
def sCt : DS := fun ρ st => .ct ρ st
def dropE (M : List Nat) (ρ : EnvD) : EnvD := ρ.mapIdx fun j s => if M.contains j = true then s.map fun p => (p.1, false) else s
/-- the ownership of the names M, where a value may hold lists of theirs -/
def asgE (M : List Nat) (fr : Bool) (i : Nat) (d : PyData) (ρ : EnvD) : EnvD :=
  (if (if fr && mutD d then !inner0 d else !noL d) = true then dropE M ρ else ρ).set i (some (d, fr && mutD d))
def sSet (i : Nat) (M : List Nat) (fr : Bool) (f : DE) : DS := fun ρ st => eS (f ρ st) fun d st => if i < ρ.length then .nx (asgE M fr i d ρ) st else .stuck
def sUnp (M : List Nat) (f : DE) (g : DG) : DS := fun ρ st => eS (f ρ st) fun d st => match g d (if noL d = true then ρ else dropE M ρ) with
  | some ρ' => .nx ρ' st
  | none => .stuck
def forGo (g : DG) (body : DS) : List PyData → EnvD → Store → SR
  | [], ρ, st => .nx ρ st
  | d :: ds, ρ, st => match g d ρ with
    | none => .stuck
    | some ρ1 => match body ρ1 st with
      | .nx ρ st => forGo g body ds ρ st
      | .ct ρ st => forGo g body ds ρ st
      | .brk ρ st => .nx ρ st
      | r => r
def sFor (M : List Nat) (i : DI) (g : DG) (body : DS) : DS := fun ρ st => match i ρ st with
  | .ok ds st => forGo g body ds (dropE M ρ) st
  | .exn x st => .exn x st
  | .stuck => .stuck
def whGo (c : DB) (body : DS) : Nat → EnvD → Store → SR
  | 0, _, _ => .stuck
  | n + 1, ρ, st => match c ρ st with
    | .ok b st => if b = true then (match body ρ st with
      | .nx ρ st => whGo c body n ρ st
      | .ct ρ st => whGo c body n ρ st
      | .brk ρ st => .nx ρ st
      | r => r) else .nx ρ st
    | .exn x st => .exn x st
    | .stuck => .stuck
def sWh (n : Nat) (c : DB) (body : DS) : DS := fun ρ st => whGo c body n ρ st

section
variable {F : Fx} {L : List Addr} {AL : Addr → Prop} {ρ ρ1 : EnvD} {st st0 st1 st' : Store} {σ σ1 : L2.St} {H H1 H2 : Hp} {D : Ends} {M : List Nat} {fr : Bool}
/-- a later part of a statement -/
theorem SPost.later {r : SR} (f : Frm F L ρ σ H ρ1 σ1 H1) (h : SPost F L AL ρ σ H D r) : SPost F L AL ρ1 σ1 H1 D r := by
  cases r with
  | nx ρ' st' => exact fun σ' H' R k => h σ' H' R (f.trans k)
  | brk ρ' st' => exact fun σ' H' R k => h σ' H' R (f.trans k)
  | ct ρ' st' => exact fun σ' H' R k => h σ' H' R (f.trans k)
  | ret d f st' => exact h
  | exn x st' => exact h
  | stuck => exact h
theorem SPost.ends {r : SR} {D' : Ends} (h : SPost F L AL ρ σ H D r) (h1 : ∀ σ H, D.nx σ H → D'.nx σ H) (h2 : ∀ σ H, D.bk σ H → D'.bk σ H) (h3 : ∀ σ H, D.ct σ H → D'.ct σ H) (h4 : ∀ v H, D.rt v H → D'.rt v H) : SPost F L AL ρ σ H D' r := by
  cases r with
  | nx ρ' st' => exact fun σ' H' R k => h1 _ _ (h σ' H' R k)
  | brk ρ' st' => exact fun σ' H' R k => h2 _ _ (h σ' H' R k)
  | ct ρ' st' => exact fun σ' H' R k => h3 _ _ (h σ' H' R k)
  | ret d f st' => exact fun ρ' σ' v H' R rp k => h4 _ _ (h ρ' σ' v H' R rp k)
  | exn x st' => exact h
  | stuck => exact h
/-- an expression ahead of the rest -/
theorem eS_read {f : DE} {k : PyData → Store → SR} {Q : VK} {ρs : EnvD} {σs : L2.St} {Hs : Hp} (R : Rel F L AL ρ st σ H) (h : SPost F L AL ρs σs Hs D (eS (f ρ st) k))
    (hk : ∀ d st' v H', Rel F L AL ρ st' σ H' → Ext L H H' → Rep F.G L H' (AP (L ++ F.Z) ρ σ M H) d v → Fresh F.G L H H' (AP (L ++ F.Z) ρ σ M H) fr d v → SPost F L AL ρs σs Hs D (k d st') → Q v H') : tD F M fr f σ H Q := by
  refine ⟨L, AL, ρ, st, R, ?_⟩
  cases e : f ρ st with
  | ok d st' =>
    rw [e] at h
    exact fun v H' R' E' r fre => hk d st' v H' R' E' r fre h
  | exn x st' =>
    rw [e] at h
    exact fun cls dd H' R' E' xr => h ρ σ cls dd H' R' xr
  | stuck =>
    rw [e] at h
    exact h
theorem dropE_get {i : Nat} {d : PyData} {w : Bool} (h : (dropE M ρ)[i]? = some (some (d, w))) : ∃ w', ρ[i]? = some (some (d, w')) ∧ (w = true → w' = true ∧ i ∉ M) ∧ (w' = true → i ∉ M → w = true) := by
  unfold dropE at h
  rw [List.getElem?_mapIdx] at h
  cases q : ρ[i]? with
  | none => rw [q] at h; cases h
  | some s =>
    rw [q] at h
    have h : some (if M.contains i = true then s.map fun p => (p.1, false) else s) = some (some (d, w)) := h
    have h := Option.some.inj h
    by_cases c : M.contains i = true
    · rw [if_pos c] at h
      cases s with
      | none => cases h
      | some p =>
        obtain ⟨d', w'⟩ := p
        cases h
        exact ⟨w', rfl, fun z => (nomatch z), fun _ z => absurd (by simpa using c) z⟩
    · rw [if_neg c] at h
      subst h
      exact ⟨w, rfl, fun z => ⟨z, by simpa using c⟩, fun z _ => z⟩
theorem own_drop {i : Nat} {b : Addr} (h : OwnAt (dropE M ρ) σ i b) : OwnAt ρ σ i b ∧ i ∉ M := by
  obtain ⟨⟨d, h1⟩, h2⟩ := h
  obtain ⟨w, e1, e2, _⟩ := dropE_get h1
  obtain ⟨rfl, e3⟩ := e2 rfl
  exact ⟨⟨⟨d, e1⟩, h2⟩, e3⟩
theorem NU.drop {E : List Addr} {b : Addr} (h : NU E ρ σ b) : NU E (dropE M ρ) σ b := ⟨h.1, fun i hi => h.2 i (own_drop hi).1⟩
theorem dropE_len : (dropE M ρ).length = ρ.length := by simp [dropE]
theorem Rel.drop (R : Rel F L AL ρ st σ H) (M : List Nat) : Rel F L AL (dropE M ρ) st σ H := by
  refine ⟨by rw [dropE_len, R.len], fun i d h => ?_, fun i d h => ?_, fun i j a h1 h2 => R.ne i j a (own_drop h1).1 (own_drop h2).1, R.ext, R.lx, R.lnd, R.ll, R.cell, fun b h => ⟨(R.al b h).1, fun i hi => (R.al b h).2 i (own_drop hi).1⟩, R.ald, R.tab, R.zt, by rw [dropE_len]; exact R.nn⟩
  · obtain ⟨w, e1, _, e3⟩ := dropE_get h
    cases w with
    | false =>
      obtain ⟨v, h1, h2⟩ := R.val i d e1
      exact ⟨v, h1, h2.imp fun b k _ => k.drop⟩
    | true =>
      obtain ⟨a, o, h1, h2, h3, h4, _⟩ := R.own i d e1
      refine ⟨.ref a, h1, (h3.imp fun b k _ => k.drop).rep h2 ⟨h4, fun j hj => ?_⟩⟩
      have hj' := own_drop hj
      have := R.ne j i a hj'.1 ⟨⟨d, e1⟩, h1⟩
      subst this
      have := e3 rfl hj'.2
      cases this
  · obtain ⟨w, e1, e2, _⟩ := dropE_get h
    obtain ⟨rfl, _⟩ := e2 rfl
    obtain ⟨a, o, h1, h2, h3, h4, h5⟩ := R.own i d e1
    exact ⟨a, o, h1, h2, h3.imp fun b k _ => k.drop, h4, h5⟩
theorem Frm.drop (M : List Nat) : Frm F L ρ σ H (dropE M ρ) σ H := ⟨fun b _ h => ⟨fun _ h _ => h, h.drop⟩, fun _ _ h _ _ => h, fun _ h => h⟩
/-- what a told value holds is nobody's, where the names M own no more -/
theorem AP.nu (R : Rel F L AL ρ st σ H) {b : Addr} (h : AP (L ++ F.Z) ρ σ M H b) : NU (L ++ F.Z) (dropE M ρ) σ b := by
  refine ⟨h.1, fun i hi => ?_⟩
  obtain ⟨h1, h2⟩ := own_drop hi
  rcases h.2 with z | z
  · obtain ⟨⟨d, e1⟩, e2⟩ := h1
    obtain ⟨a, o, q1, q2, _⟩ := R.own i d e1
    rw [q1] at e2
    cases e2
    rw [z] at q2
    cases q2
  · exact h2 (z i h1)
theorem AP.nu' (R : Rel F L AL ρ st σ H) {b : Addr} (h : AP (L ++ F.Z) ρ σ [] H b) : NU (L ++ F.Z) ρ σ b := by
  refine ⟨h.1, fun i hi => ?_⟩
  rcases h.2 with z | z
  · obtain ⟨⟨d, e1⟩, e2⟩ := hi
    obtain ⟨a, o, q1, q2, _⟩ := R.own i d e1
    rw [q1] at e2
    cases e2
    rw [z] at q2
    cases q2
  · exact nomatch z i hi

theorem own_putOwn {i j : Nat} {d : PyData} {v : V} {a b : Addr} (hi : i < ρ.length) (h : OwnAt (ρ.set i (some (d, true))) (σ.set i (some (.ref a))) j b) (hl : ρ.length = σ.length) : (j = i ∧ b = a) ∨ (j ≠ i ∧ OwnAt ρ σ j b) := by
  obtain ⟨⟨d', h1⟩, h2⟩ := h
  by_cases e : i = j
  · subst e
    rw [List.getElem?_set_self (by omega)] at h2
    cases h2
    exact .inl ⟨rfl, rfl⟩
  · rw [List.getElem?_set_ne e] at h1 h2
    exact .inr ⟨Ne.symm e, ⟨d', h1⟩, h2⟩
/-- a new list (dict) in the slot i -/
theorem tbl_of {G : Gd} {L : List Addr} {H : Hp} {A : Addr → Prop} {a : Addr} {d : PyData} {o : HO} (m : MutRep G L H A a d o) : isTbl o = false := by
  cases m <;> rfl
theorem Rel.putOwn (R0 : Rel F L AL ρ st0 σ H) (R : Rel F L AL ρ st σ H1) (e : Ext L H H1) {i : Nat} {d : PyData} {a : Addr} {o : HO} (hi : i < ρ.length) (h0 : H a = none) (h1 : H1 a = some o) (m : MutRep F.G L H1 (fun b => NU (L ++ F.Z) ρ σ b ∧ b ≠ a) a d o) :
    Rel F L AL (ρ.set i (some (d, true))) st (σ.set i (some (.ref a))) H1 ∧ Frm F L ρ σ H (ρ.set i (some (d, true))) (σ.set i (some (.ref a))) H1 := by
  have own : ∀ {j b}, OwnAt (ρ.set i (some (d, true))) (σ.set i (some (.ref a))) j b → (j = i ∧ b = a) ∨ (j ≠ i ∧ OwnAt ρ σ j b) := fun h => own_putOwn (v := .ref a) hi h R.len
  have nu : ∀ b, NU (L ++ F.Z) ρ σ b → b ≠ a → NU (L ++ F.Z) (ρ.set i (some (d, true))) (σ.set i (some (.ref a))) b := fun b k hb => ⟨k.1, fun j hj => (own hj).elim (fun z => hb z.2) fun z => k.2 j z.2⟩
  have kp0 : ∀ {A : Addr → Prop}, (∀ b, A b → b ∉ L) → Kp A H H1 := fun hA => e.kp R0.tr hA
  refine ⟨⟨by simp [R.len], fun j d' h => ?_, fun j d' h => ?_, fun j k b z1 z2 => ?_, R.ext, R.lx, R.lnd, R.ll, R.cell, fun b h => ⟨(R.al b h).1, fun j hj => ?_⟩, R.ald, R.tab, R.zt, by rw [List.length_set]; exact R.nn⟩,
    ⟨fun b hb n => ⟨fun o q t => e.keep b o q (notApp n.1) t, nu b n fun z => hb (by rw [z]; exact h0)⟩, (e.frm R0).frz, e.dom⟩⟩
  · by_cases q : i = j
    · subst q
      rw [List.getElem?_set_self hi] at h
      cases h
    · rw [List.getElem?_set_ne q] at h
      obtain ⟨v, z1, z2⟩ := R0.val j d' h
      refine ⟨v, by rw [List.getElem?_set_ne q]; exact z1, Rep.keep (kp0 fun b k => notApp k.1) (z2.imp fun b k hb => nu b k fun z => hb (by rw [z]; exact h0))⟩
  · by_cases q : i = j
    · subst q
      rw [List.getElem?_set_self hi] at h
      cases h
      refine ⟨a, o, List.getElem?_set_self (by rw [← R.len]; exact hi), h1, m.imp fun b k _ => nu b k.1 k.2, R0.notZ h0, R0.ext.free h0⟩
    · rw [List.getElem?_set_ne q] at h
      obtain ⟨a', o', z1, z2, z3, z4, z5⟩ := R0.own j d' h
      refine ⟨a', o', by rw [List.getElem?_set_ne q]; exact z1, e.keep _ _ z2 (notApp z4) (tbl_of z3), MutRep.keep (kp0 fun b k => notApp k.1) (z3.imp fun b k hb => nu b k fun z => hb (by rw [z]; exact h0)), z4, z5⟩
  · rcases own z1 with ⟨rfl, rfl⟩ | ⟨n1, o1⟩
    · rcases own z2 with ⟨rfl, _⟩ | ⟨n2, o2⟩
      · rfl
      · obtain ⟨⟨d2, e1⟩, e2⟩ := o2
        obtain ⟨a2, o2, q1, q2, _⟩ := R0.own k d2 e1
        rw [q1] at e2
        cases e2
        rw [h0] at q2
        cases q2
    · rcases own z2 with ⟨rfl, rfl⟩ | ⟨n2, o2⟩
      · obtain ⟨⟨d2, e1⟩, e2⟩ := o1
        obtain ⟨a2, o2, q1, q2, _⟩ := R0.own j d2 e1
        rw [q1] at e2
        cases e2
        rw [h0] at q2
        cases q2
      · exact R.ne j k b o1 o2
  · rcases own hj with ⟨rfl, rfl⟩ | ⟨_, oj⟩
    · exact R0.ald b h h0
    · exact (R.al b h).2 j oj
/-- a value told from (ρ, H) is stored -/
theorem Rel.asg (R0 : Rel F L AL ρ st0 σ H) (R : Rel F L AL ρ st σ H1) (e : Ext L H H1) {i : Nat} {d : PyData} {v : V} (hi : i < ρ.length) (r : Rep F.G L H1 (AP (L ++ F.Z) ρ σ M H) d v) (fre : Fresh F.G L H H1 (AP (L ++ F.Z) ρ σ M H) fr d v) :
    Rel F L AL (asgE M fr i d ρ) st (σ.set i (some v)) H1 ∧ Frm F L ρ σ H (asgE M fr i d ρ) (σ.set i (some v)) H1 := by
  unfold asgE
  cases hb : (fr && mutD d) with
  | true =>
    have hb' := hb
    rw [Bool.and_eq_true] at hb'
    obtain ⟨a, o, rfl, h0, h1, m⟩ := fre hb'.1 hb'.2
    simp only [if_true]
    cases z : inner0 d with
    | true =>
      simp only [Bool.not_true, Bool.false_eq_true, if_false]
      exact R0.putOwn R e hi h0 h1 (m.free z)
    | false =>
      simp only [Bool.not_false, if_true]
      have := (R0.drop M).putOwn (R.drop M) e (by rw [dropE_len]; exact hi) h0 h1 (m.imp fun b k _ => ⟨AP.nu R0 k.1, k.2⟩)
      exact ⟨this.1, (Frm.drop M).trans this.2⟩
  | false =>
    simp only [Bool.false_eq_true, if_false]
    have fp : ∀ (ρ' : EnvD) (w : V), Frm F L ρ σ H ρ' σ H1 → Frm F L ρ σ H (ρ'.set i (some (d, false))) (σ.set i (some w)) H1 := fun ρ' w k => ⟨fun b hb n => ⟨(k.keep b hb n).1, (k.keep b hb n).2.put⟩, k.frz, k.dom⟩
    cases z : noL d with
    | true =>
      simp only [Bool.not_true, Bool.false_eq_true, if_false]
      exact ⟨R.put (A := fun _ => False) (r.free z) fun b k => k.elim, fp ρ v (e.frm R0)⟩
    | false =>
      simp only [Bool.not_false, if_true]
      exact ⟨(R.drop M).put r fun b k _ => AP.nu R0 k, fp _ v ((e.frm R0).trans (Frm.drop M))⟩
end

section
variable {X : Cx} {F : Fx} {M M1 M2 : List Nat} {fr fr1 fr2 pr : Bool} {e a b tg iter : Expr} {f fa fb : DE} {c : DB} {g k body : DS} {pos pos' : Pos} {s : Stmt} {ss s2 : List Stmt}
theorem pss_nilD : PSs X [] (tS F sNext) := pss_nil.imp fun D σ H ⟨L, AL, ρ, st, R, h⟩ => h σ H R .refl
theorem pss_consD (h1 : PS X s (tS F g)) (h2 : PSs X ss (tS F k)) : PSs X (s :: ss) (tS F (sSeq g k)) := (pss_cons h1 h2).imp fun D σ H ⟨L, AL, ρ, st, R, h⟩ => by
  refine ⟨L, AL, ρ, st, R, ?_⟩
  unfold sSeq at h
  cases q : g ρ st with
  | nx ρ1 st1 =>
    rw [q] at h
    exact fun σ' H' R' fm => ⟨L, AL, ρ1, st1, R', h.later fm⟩
  | brk ρ1 st1 => rw [q] at h; exact h
  | ct ρ1 st1 => rw [q] at h; exact h
  | ret d f st1 => rw [q] at h; exact h
  | exn x st1 => rw [q] at h; exact h
  | stuck => rw [q] at h; exact h
theorem pss_oneD (h1 : PS X s (tS F g)) : PSs X [s] (tS F g) := pss_one h1
theorem ps_passD : PS X (.Pass pos) (tS F sNext) := ps_pass.imp fun D σ H ⟨L, AL, ρ, st, R, h⟩ => h σ H R .refl
theorem ps_breakD : PS X (.Break pos) (tS F sBrk) := ps_break.imp fun D σ H ⟨L, AL, ρ, st, R, h⟩ => h σ H R .refl
theorem ps_contD : PS X (.Continue pos) (tS F sCt) := ps_continue.imp fun D σ H ⟨L, AL, ρ, st, R, h⟩ => h σ H R .refl
theorem ps_exprD (he : PE X e (tD F M fr f)) (hs : swapsWith e none pos.line X.env = pure false := by rfl) : PS X (.Expr e pos) (tS F (sDrop f)) := (ps_expr he hs).imp fun D σ H ⟨L, AL, ρ, st, R, h⟩ => by
  refine eS_read R h fun d st' v H' R' E' r _ h => ?_
  exact h σ H' R' (E'.frm R)
theorem ps_retD (he : PE X e (tD F M fr f)) : PS X (.Return (some e) pos) (tS F (sRet fr f)) := (ps_ret he).imp fun D σ H ⟨L, AL, ρ, st, R, h⟩ => by
  refine eS_read R h fun d st' v H' R' E' r fre h => ?_
  refine h ρ σ v H' R' (r.imp fun b k _ => k.1) fun h1 h2 => ?_
  obtain ⟨a, o, rfl, h0, ha, m⟩ := fre h1 h2
  exact ⟨a, o, rfl, R.ext.free h0, ha, m.imp fun b k _ => ⟨k.1.1, k.2⟩⟩
theorem ps_retVD {i : Nat} {x : Str} {p : Pos} (hN : X.N[i]? = some x) (hv : Vis X.env.scope x) (hd : (x == ("__debug__" : Str)) = false := by decide) (hcd : (x == ("__classdict__" : Str)) = false := by decide) : PS X (.Return (some (.Name x p)) pos) (tS F (sRetV i)) :=
  (ps_ret (pe_var hN hv hd hcd)).imp fun D σ H ⟨L, AL, ρ, st, R, h⟩ => by
    unfold sRetV at h
    cases q : ρ[i]? with
    | none => rw [q] at h; exact h.elim
    | some o =>
      cases o with
      | none => rw [q] at h; exact h.elim
      | some z =>
        obtain ⟨d, w⟩ := z
        rw [q] at h
        cases w with
        | false =>
          obtain ⟨v, h1, h2⟩ := R.val i d q
          exact ⟨v, h1, h ρ σ v H R (h2.imp fun b k _ => k.1) fun z => nomatch z⟩
        | true =>
          obtain ⟨a, o, h1, h2, h3, h4, h5⟩ := R.own i d q
          refine ⟨.ref a, h1, h ρ σ _ H R ((h3.imp fun b k _ => k.1).rep h2 h4) fun _ _ => ⟨a, o, rfl, h5, h2, h3.imp fun b k _ => ⟨k.1, fun z => ?_⟩⟩⟩
          subst z
          exact k.2 i ⟨⟨d, q⟩, h1⟩
theorem ps_retND : PS X (.Return none pos) (tS F sRetN) := ps_retN.imp fun D σ H ⟨L, AL, ρ, st, R, h⟩ => h ρ σ .non H R .non fun z => nomatch z
theorem ps_ifD (hc : PT X a (tDB F c)) (ha : PSs X ss (tS F g)) (hb : PSs X s2 (tS F k)) : PS X (.If a ss s2 pos) (tS F (sIf c g k)) := (ps_if hc ha hb).imp fun D σ H ⟨L, AL, ρ, st, R, h⟩ => by
  refine ⟨L, AL, ρ, st, R, ?_⟩
  unfold sIf at h
  cases q : c ρ st with
  | ok b st1 =>
    rw [q] at h
    intro H1 R1 E1
    cases b with
    | true => exact iteT ⟨L, AL, ρ, st1, R1, SPost.later (E1.frm R) h⟩
    | false => exact iteF ⟨L, AL, ρ, st1, R1, SPost.later (E1.frm R) h⟩
  | exn x st1 =>
    rw [q] at h
    exact fun cls dd H' R' E' xr => h ρ σ cls dd H' R' xr
  | stuck => rw [q] at h; exact h
theorem asg_read {i : Nat} {D : Ends} {σ : L2.St} {H : Hp} (h : tS F (sSet i M fr f) D σ H) : tAsg (tD F M fr f) (gName i) D σ H := by
  obtain ⟨L, AL, ρ, st, R, h⟩ := h
  refine eS_read R h fun d st' v H' R' E' r fre h => ?_
  by_cases hi : i < ρ.length
  · rw [if_pos hi] at h
    obtain ⟨z1, z2⟩ := R.asg R' E' hi r fre
    exact h _ H' z1 z2
  · rw [if_neg hi] at h
    exact h.elim
theorem ps_setD {i : Nat} {x : Str} (hN : X.N.Nodup) (hi : X.N[i]? = some x) (hx : Loc X.env.scope x) (he : PE X e (tD F M fr f)) (hs : swapsWith e (some (.Name x pos')) pos.line X.env = pure false := by rfl) (hf : X.fn x = true ∨ X.env.scope.names.lookup x = some .local := by first | exact .inl rfl | exact .inr rfl | assumption) :
    PS X (.Assign [.Name x pos'] e pos) (tS F (sSet i M fr f)) := (ps_set hN hi hx he hs hf).imp fun D σ H h => asg_read h
theorem ps_unpD {dg : DG} {W : List Nat} {es : List Expr} {kk : Nat} {tp : Pos} (he : PE X e (tD F M fr f)) (hg : PG X (.Tuple es kk tp) (tG F false W dg)) (hs : swapsWithSole [.Tuple es kk tp] e pos.line X.env = pure false := by rfl) (hw : swappedStores [.Tuple es kk tp] e X.env = pure none := by rfl)
    (h1 : (assignEach [.Tuple es kk tp] X.env).map (·.2) = [assign (.Tuple es kk tp) X.env] := by rfl) : PS X (.Assign [.Tuple es kk tp] e pos) (tS F (sUnp M f dg)) := (ps_asg he hg hs hw h1).imp fun D σ H ⟨L, AL, ρ, st, R, h⟩ => by
  refine eS_read R h fun d st' v H' R' E' r fre h => ?_
  cases z : noL d with
  | true =>
    simp only [z, if_true] at h
    cases q : dg d ρ with
    | none => rw [q] at h; exact h.elim
    | some ρ' =>
      rw [q] at h
      exact ⟨L, AL, ρ, st', d, fun _ => False, R', .rep (r.free z), fun b k => k.elim, ρ', q, fun σ' R2 k _ _ => h σ' H' R2 ((E'.frm R).trans ⟨fun b _ n => ⟨fun _ z _ => z, k b n⟩, fun _ _ z _ _ => z, fun _ z => z⟩)⟩
  | false =>
    simp only [z, Bool.false_eq_true, if_false] at h
    cases q : dg d (dropE M ρ) with
    | none => rw [q] at h; exact h.elim
    | some ρ' =>
      rw [q] at h
      exact ⟨L, AL, dropE M ρ, st', d, _, R'.drop M, .rep r, fun b k _ => AP.nu R k, ρ', q, fun σ' R2 k _ _ => h σ' H' R2 (((E'.frm R).trans (Frm.drop M)).trans ⟨fun b _ n => ⟨fun _ z _ => z, k b n⟩, fun _ _ z _ _ => z, fun _ z => z⟩)⟩
end
end Ev
end

section
set_option maxRecDepth 100000
set_option maxHeartbeats 4000000
namespace Ev
open PySem PySem.Spec PyProof.Rows L2

section
variable {F : Fx} {L : List Addr} {AL : Addr → Prop} {ρ ρ1 : EnvD} {st st0 st1 st' : Store} {σ σ1 : L2.St} {H H1 H2 : Hp} {D : Ends} {M : List Nat} {fr : Bool}
theorem Frm.of_nu (h : ∀ b, NU (L ++ F.Z) ρ σ b → NU (L ++ F.Z) ρ1 σ1 b) : Frm F L ρ σ H ρ1 σ1 H := ⟨fun b _ n => ⟨fun _ z _ => z, h b n⟩, fun _ _ z _ _ => z, fun _ z => z⟩
theorem own_asg {i k : Nat} {d : PyData} {v : V} {b : Addr} (h : OwnAt (asgE M fr i d ρ) (σ.set i (some v)) k b) : k = i ∨ OwnAt ρ σ k b := by
  obtain ⟨⟨d', h1⟩, h2⟩ := h
  by_cases e : i = k
  · exact .inl e.symm
  · unfold asgE at h1
    rw [List.getElem?_set_ne e] at h1 h2
    generalize (if (fr && mutD d) = true then !inner0 d else !noL d) = c at h1
    cases c with
    | true => exact .inr (own_drop (M := M) ⟨⟨d', h1⟩, h2⟩).1
    | false => exact .inr ⟨⟨d', h1⟩, h2⟩
theorem asgE_len {i : Nat} {d : PyData} : (asgE M fr i d ρ).length = ρ.length := by
  unfold asgE
  rw [List.length_set]
  generalize (if (fr && mutD d) = true then !inner0 d else !noL d) = c
  cases c with
  | true => exact dropE_len
  | false => rfl
end

section
variable {X : Cx} {F : Fx} {M M1 M2 M3 : List Nat} {fr fr1 fr2 fr3 pr : Bool} {e a b tg iter : Expr} {f f1 f2 f3 : DE} {c : DB} {g k body : DS} {pos pos' : Pos} {s : Stmt} {ss s2 : List Stmt}
/-! ### loops -/
theorem ps_forD {dg : DG} {di : DI} {gb : DS} {W : List Nat} {sb : List Stmt} (hp : PassesOwn (model X.prog X.w) X.A X.env X.xe) (hc : X.calm = true) (hi : PI X tg iter (tI F pr M di)) (hg : PG X tg (tG F pr W dg)) (hb : PSs X sb (tS F gb))
    (hs : ∀ x, foldedSetIterable iter X.env x = pure x := by intro _; rfl) : PS X (.For tg iter sb [] pos) (tS F (sFor M di dg gb)) := (ps_for hp hc hi hg hb hs).imp fun D σ H ⟨L, AL, ρ, st, R, h⟩ => by
  refine ⟨L, AL, ρ, st, R, ?_⟩
  unfold sFor at h
  cases q : di ρ st with
  | exn x st1 => rw [q] at h; exact fun cls dd H' R' E' xr => h ρ σ cls dd H' R' xr
  | stuck => rw [q] at h; exact h
  | ok ds st1 =>
    rw [q] at h
    intro J H1 R1 E1 DW
    obtain ⟨S, s0, sK, sG, sS, sY⟩ := DW
    have h : SPost F L AL (dropE M ρ) σ H1 D (forGo dg gb ds (dropE M ρ) st1) := SPost.later ((E1.frm R).trans (Frm.drop M)) h
    let A : Addr → Prop := APn (L ++ F.Z) ρ σ M H H1
    refine ⟨fun i m σi Hh => m = ds.length - i ∧ i ≤ ds.length ∧ S Hh ∧ ∃ ρi sti, Rel F L AL ρi sti σi Hh ∧ (∀ b, A b → NU (L ++ F.Z) ρi σi b ∧ Hh b ≠ none) ∧ SPost F L AL ρi σi Hh D (forGo dg gb (ds.drop i) ρi sti),
      ⟨_, rfl, Nat.zero_le _, s0, dropE M ρ, st1, R1.drop M, fun b hb => ⟨AP.nu R hb.1, hb.2⟩, h⟩, ?_⟩
    rintro i m σi Hh ⟨rfl, hi, s, ρi, sti, Ri, hA, hP⟩
    by_cases hlt : i < ds.length
    · refine .inr ⟨sG i Hh hlt s, fun σ' H' => i + 1 ≤ ds.length ∧ S H' ∧ ∃ ρi sti, Rel F L AL ρi sti σ' H' ∧ (∀ b, A b → NU (L ++ F.Z) ρi σ' b ∧ H' b ≠ none) ∧ SPost F L AL ρi σ' H' D (forGo dg gb (ds.drop (i + 1)) ρi sti),
        fun σ' H' w => ⟨ds.length - (i + 1), by omega, rfl, w⟩, fun x H' y => ?_⟩
      obtain ⟨sm, d, hd, ir⟩ := sY i Hh x H' hlt s y
      have e : ds.drop i = d :: ds.drop (i + 1) := by
        rw [List.drop_eq_getElem_cons hlt]
        rw [List.getElem?_eq_getElem hlt] at hd
        rw [Option.some.inj hd]
      rw [e] at hP
      unfold forGo at hP
      have E' : Ext L Hh H' := .of_same sm
      have R' := Ri.same sm
      cases q1 : dg d ρi with
      | none => simp only [q1] at hP; exact hP.elim
      | some ρ1 =>
        simp only [q1] at hP
        refine ⟨L, AL, ρi, sti, d, A, R', ir, fun b hb _ => (hA b hb).1, ρ1, q1, fun σ2 R2 nu _ _ => ⟨L, AL, ρ1, sti, R2, ?_⟩⟩
        have f1 : Frm F L ρi σi Hh ρ1 σ2 H' := (E'.frm Ri).trans (Frm.of_nu nu)
        have goOn : ∀ ρ2 st2, SPost F L AL ρi σi Hh D (forGo dg gb (ds.drop (i + 1)) ρ2 st2) → ∀ σ3 H3, Rel F L AL ρ2 st2 σ3 H3 → Frm F L ρ1 σ2 H' ρ2 σ3 H3 →
            i + 1 ≤ ds.length ∧ S H3 ∧ ∃ ρi sti, Rel F L AL ρi sti σ3 H3 ∧ (∀ b, A b → NU (L ++ F.Z) ρi σ3 b ∧ H3 b ≠ none) ∧ SPost F L AL ρi σ3 H3 D (forGo dg gb (ds.drop (i + 1)) ρi sti) := fun ρ2 st2 hP σ3 H3 R3 f3 => by
          have ff := f1.trans f3
          exact ⟨hlt, sK Hh H3 s (ff.kp fun b hb _ => (hA b hb).1), ρ2, st2, R3, fun b hb => ⟨(ff.keep b (hA b hb).2 (hA b hb).1).2, ff.dom b (hA b hb).2⟩, hP.later ff⟩
        cases q2 : gb ρ1 sti with
        | nx ρ2 st2 => rw [q2] at hP; exact goOn ρ2 st2 hP
        | ct ρ2 st2 => rw [q2] at hP; exact goOn ρ2 st2 hP
        | brk ρ2 st2 => rw [q2] at hP; exact fun σ3 H3 R3 f3 => hP σ3 H3 R3 (f1.trans f3)
        | ret d f st2 => rw [q2] at hP; exact hP
        | exn x st2 => rw [q2] at hP; exact hP
        | stuck => rw [q2] at hP; exact hP
    · have e : i = ds.length := by omega
      subst e
      rw [List.drop_length] at hP
      exact .inl ⟨sS Hh s, hP σi Hh Ri .refl⟩
theorem ps_whileD {n : Nat} {gb : DS} {sb : List Stmt} (hp : PassesOwn (model X.prog X.w) X.A X.env X.xe) (hc : PT X a (tDB F c)) (hb : PSs X sb (tS F gb)) : PS X (.While a sb [] pos) (tS F (sWh n c gb)) := (ps_while hp hc hb).imp fun D σ H ⟨L, AL, ρ, st, R, h⟩ => by
  refine ⟨fun m σ' H' => ∃ ρ' st', Rel F L AL ρ' st' σ' H' ∧ SPost F L AL ρ' σ' H' D (whGo c gb m ρ' st'), ⟨n, ρ, st, R, h⟩, ?_⟩
  rintro m σ1 H1 ⟨ρ1, st1, R1, h⟩
  cases m with
  | zero => exact h.elim
  | succ m =>
    refine ⟨L, AL, ρ1, st1, R1, ?_⟩
    unfold whGo at h
    cases q : c ρ1 st1 with
    | exn x st2 => rw [q] at h; exact fun cls dd H' R' E' xr => h _ _ cls dd H' R' xr
    | stuck => rw [q] at h; exact h
    | ok t st2 =>
      rw [q] at h
      intro H2 R2 E2
      cases t with
      | false => exact iteF (h σ1 H2 R2 (E2.frm R1))
      | true =>
        refine iteT ⟨fun σ' H' => ∃ ρ' st', Rel F L AL ρ' st' σ' H' ∧ SPost F L AL ρ' σ' H' D (whGo c gb m ρ' st'), fun σ' H' w => ⟨m, Nat.lt_succ_self _, w⟩, L, AL, ρ1, st2, R2, ?_⟩
        have h : SPost F L AL ρ1 σ1 H1 D (match gb ρ1 st2 with
          | .nx ρ st => whGo c gb m ρ st
          | .ct ρ st => whGo c gb m ρ st
          | .brk ρ st => .nx ρ st
          | r => r) := h
        have f1 : Frm F L ρ1 σ1 H1 ρ1 σ1 H2 := E2.frm R1
        cases q2 : gb ρ1 st2 with
        | nx ρ2 st3 => rw [q2] at h; exact fun σ3 H3 R3 f3 => ⟨ρ2, st3, R3, h.later (f1.trans f3)⟩
        | ct ρ2 st3 => rw [q2] at h; exact fun σ3 H3 R3 f3 => ⟨ρ2, st3, R3, h.later (f1.trans f3)⟩
        | brk ρ2 st3 => rw [q2] at h; exact fun σ3 H3 R3 f3 => h σ3 H3 R3 (f1.trans f3)
        | ret d f st3 => rw [q2] at h; exact h
        | exn x st3 => rw [q2] at h; exact h
        | stuck => rw [q2] at h; exact h

/-! ### several at once -/
def sPar (i : Nat) (M1 : List Nat) (fr1 : Bool) (f1 : DE) (j : Nat) (M2 : List Nat) (fr2 : Bool) (f2 : DE) : DS := fun ρ st => eS (f1 ρ st) fun d1 st => eS (f2 ρ st) fun d2 st =>
  if i < ρ.length ∧ j < ρ.length then .nx (asgE (i :: M2) fr2 j d2 (asgE M1 fr1 i d1 ρ)) st else .stuck
def sPar3 (i : Nat) (M1 : List Nat) (fr1 : Bool) (f1 : DE) (j : Nat) (M2 : List Nat) (fr2 : Bool) (f2 : DE) (l : Nat) (M3 : List Nat) (fr3 : Bool) (f3 : DE) : DS := fun ρ st => eS (f1 ρ st) fun d1 st => eS (f2 ρ st) fun d2 st => eS (f3 ρ st) fun d3 st =>
  if i < ρ.length ∧ j < ρ.length ∧ l < ρ.length then .nx (asgE (i :: j :: M3) fr3 l d3 (asgE (i :: M2) fr2 j d2 (asgE M1 fr1 i d1 ρ))) st else .stuck
section
variable {L : List Addr} {AL : Addr → Prop} {ρ ρ1 : EnvD} {st st0 st1 st2 st' : Store} {σ σ1 : L2.St} {H H1 H2 : Hp}
/-- a value told from (ρ, H1), to be stored where other values told before are stored already -/
theorem ap_next {E : List Addr} {N M' : List Nat} (k : ∀ i b, OwnAt ρ1 σ1 i b → i ∈ N ∨ OwnAt ρ σ i b) {b : Addr} (hM : ∀ i, i ∈ N ∨ i ∈ M → i ∈ M') (h : AP E ρ σ M H1 b) : AP E ρ1 σ1 M' H1 b :=
  ⟨h.1, h.2.imp id fun q i hi => hM i ((k i b hi).imp id (q i))⟩
end
/-- a row of arguments, a weaker end -/
theorem tD_mono {fr : Bool} {f : DE} {σ : L2.St} {H : Hp} {Q Q' : VK} (h : tD F M fr f σ H Q) (k : ∀ v H, Q v H → Q' v H) : tD F M fr f σ H Q' := by
  obtain ⟨L, AL, ρ, st, R, h⟩ := h
  refine ⟨L, AL, ρ, st, R, ?_⟩
  cases e : f ρ st with
  | ok d st' => rw [e] at h; exact fun v H' R' E' r fre => k _ _ (h v H' R' E' r fre)
  | exn x st' => rw [e] at h; exact h
  | stuck => rw [e] at h; exact h
theorem par_read {i j : Nat} {D : Ends} {σ : L2.St} {H : Hp} (h : tS F (sPar i M1 fr1 f1 j M2 fr2 f2) D σ H) : tCons (tD F M1 fr1 f1) (tCons (tD F M2 fr2 f2) tNil) σ H fun vs H1 => ∃ v w, vs = [v, w] ∧ ∀ H', Same H1 H' → D.nx ((σ.set i (some v)).set j (some w)) H' := by
    obtain ⟨L, AL, ρ, st, R, h⟩ := h
    refine eS_read R h fun d1 st1 v1 H1 R1 E1 r1 fre1 h => ?_
    refine eS_read R1 h fun d2 st2 v2 H2 R2 E2 r2 fre2 h => ?_
    by_cases hl : i < ρ.length ∧ j < ρ.length
    · rw [if_pos hl] at h
      refine ⟨v1, v2, rfl, fun H' sm => ?_⟩
      obtain ⟨S1, g1⟩ := R.asg R1 E1 hl.1 r1 fre1
      have S2 : Rel F L AL (asgE M1 fr1 i d1 ρ) st2 (σ.set i (some v1)) H2 := S1.step E2 R2.ll R2.cell R2.tab
      have up : ∀ b, AP (L ++ F.Z) ρ σ M2 H1 b → AP (L ++ F.Z) (asgE M1 fr1 i d1 ρ) (σ.set i (some v1)) (i :: M2) H1 b := fun b => ap_next (N := [i]) (fun k b hk => (own_asg hk).imp (fun z => by rw [z]; exact List.mem_cons_self) id) fun k hk => hk.elim (fun z => by
        rw [List.mem_singleton.mp z]; exact List.mem_cons_self) fun z => List.mem_cons_of_mem _ z
      obtain ⟨S3, g3⟩ := S1.asg S2 E2 (M := i :: M2) (fr := fr2) (d := d2) (v := v2) (i := j) (by rw [asgE_len]; exact hl.2) (r2.imp fun b k _ => up b k) fun z1 z2 => by
        obtain ⟨a, o, q1, q2, q3, q4⟩ := fre2 z1 z2
        exact ⟨a, o, q1, q2, q3, q4.imp fun b k _ => ⟨up b k.1, k.2⟩⟩
      exact h _ H' (S3.same sm) ((g1.trans g3).trans ((Ext.of_same sm).frm S3))
    · rw [if_neg hl] at h
      exact h.elim
theorem par3_read {i j l : Nat} {D : Ends} {σ : L2.St} {H : Hp} (h : tS F (sPar3 i M1 fr1 f1 j M2 fr2 f2 l M3 fr3 f3) D σ H) : tCons (tD F M1 fr1 f1) (tCons (tD F M2 fr2 f2) (tCons (tD F M3 fr3 f3) tNil)) σ H fun vs H1 => ∃ u v w, vs = [u, v, w] ∧ ∀ H', Same H1 H' → D.nx (((σ.set i (some u)).set j (some v)).set l (some w)) H' := by
    obtain ⟨L, AL, ρ, st, R, h⟩ := h
    refine eS_read R h fun d1 st1 v1 H1 R1 E1 r1 fre1 h => ?_
    refine eS_read R1 h fun d2 st2 v2 H2 R2 E2 r2 fre2 h => ?_
    refine eS_read R2 h fun d3 st3 v3 H3 R3 E3 r3 fre3 h => ?_
    by_cases hl : i < ρ.length ∧ j < ρ.length ∧ l < ρ.length
    · rw [if_pos hl] at h
      refine ⟨v1, v2, v3, rfl, fun H' sm => ?_⟩
      obtain ⟨S1, g1⟩ := R.asg R1 E1 hl.1 r1 fre1
      have S2 : Rel F L AL (asgE M1 fr1 i d1 ρ) st2 (σ.set i (some v1)) H2 := S1.step E2 R2.ll R2.cell R2.tab
      have up : ∀ b, AP (L ++ F.Z) ρ σ M2 H1 b → AP (L ++ F.Z) (asgE M1 fr1 i d1 ρ) (σ.set i (some v1)) (i :: M2) H1 b := fun b => ap_next (N := [i]) (fun k b hk => (own_asg hk).imp (fun z => by rw [z]; exact List.mem_cons_self) id) fun k hk => hk.elim (fun z => by
        rw [List.mem_singleton.mp z]; exact List.mem_cons_self) fun z => List.mem_cons_of_mem _ z
      obtain ⟨S3, g3⟩ := S1.asg S2 E2 (M := i :: M2) (fr := fr2) (d := d2) (v := v2) (i := j) (by rw [asgE_len]; exact hl.2.1) (r2.imp fun b k _ => up b k) fun z1 z2 => by
        obtain ⟨a, o, q1, q2, q3, q4⟩ := fre2 z1 z2
        exact ⟨a, o, q1, q2, q3, q4.imp fun b k _ => ⟨up b k.1, k.2⟩⟩
      have S4 : Rel F L AL (asgE (i :: M2) fr2 j d2 (asgE M1 fr1 i d1 ρ)) st3 ((σ.set i (some v1)).set j (some v2)) H3 := S3.step E3 R3.ll R3.cell R3.tab
      have up3 : ∀ b, AP (L ++ F.Z) ρ σ M3 H2 b → AP (L ++ F.Z) (asgE (i :: M2) fr2 j d2 (asgE M1 fr1 i d1 ρ)) ((σ.set i (some v1)).set j (some v2)) (i :: j :: M3) H2 b := fun b => ap_next (N := [i, j]) (fun k b hk => by
          rcases own_asg hk with z | z
          · exact .inl (by rw [z]; simp)
          · rcases own_asg z with z | z
            · exact .inl (by rw [z]; simp)
            · exact .inr z) fun k hk => hk.elim (fun z => by
          simp only [List.mem_cons, List.not_mem_nil, or_false] at z ⊢
          rcases z with z | z
          · exact .inl z
          · exact .inr (.inl z)) fun z => List.mem_cons_of_mem _ (List.mem_cons_of_mem _ z)
      obtain ⟨S5, g5⟩ := S3.asg S4 E3 (M := i :: j :: M3) (fr := fr3) (d := d3) (v := v3) (i := l) (by rw [asgE_len, asgE_len]; exact hl.2.2) (r3.imp fun b k _ => up3 b k) fun z1 z2 => by
        obtain ⟨a, o, q1, q2, q3, q4⟩ := fre3 z1 z2
        exact ⟨a, o, q1, q2, q3, q4.imp fun b k _ => ⟨up3 b k.1, k.2⟩⟩
      exact h _ H' (S5.same sm) (((g1.trans g3).trans g5).trans ((Ext.of_same sm).frm S5))
    · rw [if_neg hl] at h
      exact h.elim

theorem ps_parD {i j : Nat} {x y : Str} {px py pt : Pos} {kt k2 pt2} (hc : X.calm = true) (hN : X.N.Nodup) (hi : X.N[i]? = some x) (hj : X.N[j]? = some y) (hij : i ≠ j)
    (hx : X.env.scope.names.lookup x = some .local) (hy : X.env.scope.names.lookup y = some .local) (ha : PE X a (tD F M1 fr1 f1)) (hb : PE X b (tD F M2 fr2 f2))
    (hw : swappedStores [.Tuple [.Name x px, .Name y py] kt pt] (.Tuple [a, b] k2 pt2) X.env = pure (some [x, y]))
    (hs : swapsWithSole [.Tuple [.Name x px, .Name y py] kt pt] (.Tuple [a, b] k2 pt2) pos.line X.env = pure false := by rfl)
    (he1 : starEach [a, b] X.env = (false, eval a X.env) :: starEach [b] X.env := by rfl) (he2 : starEach [b] X.env = (false, eval b X.env) :: starEach [] X.env := by rfl) :
    PS X (.Assign [.Tuple [.Name x px, .Name y py] kt pt] (.Tuple [a, b] k2 pt2) pos) (tS F (sPar i M1 fr1 f1 j M2 fr2 f2)) :=
  (ps_par hc hN hi hj hij hx hy (pa_cons ha (pa_cons hb pa_nil he2) he1) hw hs).imp fun D σ H h => tD_mono (par_read h) fun v H1 q => tD_mono q fun w H2 ⟨v', w', e, k⟩ => ⟨v', w', e, k H2 fun _ _ z => z⟩
theorem ps_par3D {i j l : Nat} {x y z : Str} {e3 : Expr} {px py pz pt : Pos} {kt k2 pt2} (hc : X.calm = true) (hN : X.N.Nodup) (hi : X.N[i]? = some x) (hj : X.N[j]? = some y) (hl : X.N[l]? = some z) (hij : i ≠ j) (hil : i ≠ l) (hjl : j ≠ l)
    (hx : X.env.scope.names.lookup x = some .local) (hy : X.env.scope.names.lookup y = some .local) (hz : X.env.scope.names.lookup z = some .local) (ha : PE X a (tD F M1 fr1 f1)) (hb : PE X b (tD F M2 fr2 f2)) (h3 : PE X e3 (tD F M3 fr3 f3))
    (hw : swappedStores [.Tuple [.Name x px, .Name y py, .Name z pz] kt pt] (.Tuple [a, b, e3] k2 pt2) X.env = pure (some [x, y, z]))
    (hs : swapsWithSole [.Tuple [.Name x px, .Name y py, .Name z pz] kt pt] (.Tuple [a, b, e3] k2 pt2) pos.line X.env = pure false := by rfl)
    (he1 : starEach [a, b, e3] X.env = (false, eval a X.env) :: starEach [b, e3] X.env := by rfl) (he2 : starEach [b, e3] X.env = (false, eval b X.env) :: starEach [e3] X.env := by rfl) (he3 : starEach [e3] X.env = (false, eval e3 X.env) :: starEach [] X.env := by rfl) :
    PS X (.Assign [.Tuple [.Name x px, .Name y py, .Name z pz] kt pt] (.Tuple [a, b, e3] k2 pt2) pos) (tS F (sPar3 i M1 fr1 f1 j M2 fr2 f2 l M3 fr3 f3)) :=
  (ps_par3 hc hN hi hj hl hij hil hjl hx hy hz (pa_cons ha (pa_cons hb (pa_cons h3 pa_nil he3) he2) he1) hw hs).imp fun D σ H h => tD_mono (par3_read h) fun v H1 q => tD_mono q fun w H2 q => tD_mono q fun u H3 ⟨u', v', w', e, k⟩ => ⟨u', v', w', e, k H3 fun _ _ z => z⟩
/-- .. where a name is captured: the tuple is made, then taken apart -/
theorem ps_parCD {i j : Nat} {x y : Str} {px py pt : Pos} {kt k2 pt2} (hc : X.calm = true) (hN : X.N.Nodup) (hi : X.N[i]? = some x) (hj : X.N[j]? = some y) (hx : Loc X.env.scope x) (hy : Loc X.env.scope y) (hfx : X.fn x = true ∨ X.env.scope.names.lookup x = some .local) (hfy : X.fn y = true ∨ X.env.scope.names.lookup y = some .local)
    (ha : PE X a (tD F M1 fr1 f1)) (hb : PE X b (tD F M2 fr2 f2))
    (hw : swappedStores [.Tuple [.Name x px, .Name y py] kt pt] (.Tuple [a, b] k2 pt2) X.env = pure none) (hs : swapsWithSole [.Tuple [.Name x px, .Name y py] kt pt] (.Tuple [a, b] k2 pt2) pos.line X.env = pure false := by rfl)
    (he1 : starEach [a, b] X.env = (false, eval a X.env) :: starEach [b] X.env := by rfl) (he2 : starEach [b] X.env = (false, eval b X.env) :: starEach [] X.env := by rfl)
    (h1 : (assignEach [.Tuple [.Name x px, .Name y py] kt pt] X.env).map (·.2) = [assign (.Tuple [.Name x px, .Name y py] kt pt) X.env] := by rfl)
    (hn : (assignEach [.Name x px, .Name y py] X.env).length = 2 := by rfl) (hst : (assignEach [.Name x px, .Name y py] X.env).findIdx? (·.1) = none := by rfl)
    (g1 : (assignEach [.Name x px, .Name y py] X.env).map (·.2) = assign (.Name x px) X.env :: (assignEach [.Name y py] X.env).map (·.2) := by rfl) (g2 : (assignEach [.Name y py] X.env).map (·.2) = assign (.Name y py) X.env :: (assignEach [] X.env).map (·.2) := by rfl) :
    PS X (.Assign [.Tuple [.Name x px, .Name y py] kt pt] (.Tuple [a, b] k2 pt2) pos) (tS F (sPar i M1 fr1 f1 j M2 fr2 f2)) :=
  (ps_asg (pe_tup (pa_cons ha (pa_cons hb pa_nil he2) he1)) (pg_tup hc (pgs_cons (pg_name hN hi hx hfx) (pgs_cons (pg_name hN hj hy hfy) pgs_nil g2) g1) hn hst) hs hw h1).imp fun D σ H h =>
    tD_mono (par_read h) fun v H1 q => tD_mono q fun w H2 ⟨v', w', e, k⟩ => ⟨by rw [e]; show 2 ≤ sizeLine; decide, fun p hp => ⟨p, _, rfl, .inl (.inl upd_same), by rw [e]; rfl, v', [w'], e, w', [], rfl, rfl, k _ (same_upd hp)⟩⟩
theorem ps_par3CD {i j l : Nat} {x y z : Str} {e3 : Expr} {px py pz pt : Pos} {kt k2 pt2} (hc : X.calm = true) (hN : X.N.Nodup) (hi : X.N[i]? = some x) (hj : X.N[j]? = some y) (hl : X.N[l]? = some z) (hx : Loc X.env.scope x) (hy : Loc X.env.scope y) (hz : Loc X.env.scope z) (hfx : X.fn x = true ∨ X.env.scope.names.lookup x = some .local) (hfy : X.fn y = true ∨ X.env.scope.names.lookup y = some .local) (hfz : X.fn z = true ∨ X.env.scope.names.lookup z = some .local)
    (ha : PE X a (tD F M1 fr1 f1)) (hb : PE X b (tD F M2 fr2 f2)) (h3 : PE X e3 (tD F M3 fr3 f3))
    (hw : swappedStores [.Tuple [.Name x px, .Name y py, .Name z pz] kt pt] (.Tuple [a, b, e3] k2 pt2) X.env = pure none) (hs : swapsWithSole [.Tuple [.Name x px, .Name y py, .Name z pz] kt pt] (.Tuple [a, b, e3] k2 pt2) pos.line X.env = pure false := by rfl)
    (he1 : starEach [a, b, e3] X.env = (false, eval a X.env) :: starEach [b, e3] X.env := by rfl) (he2 : starEach [b, e3] X.env = (false, eval b X.env) :: starEach [e3] X.env := by rfl) (he3 : starEach [e3] X.env = (false, eval e3 X.env) :: starEach [] X.env := by rfl)
    (h1 : (assignEach [.Tuple [.Name x px, .Name y py, .Name z pz] kt pt] X.env).map (·.2) = [assign (.Tuple [.Name x px, .Name y py, .Name z pz] kt pt) X.env] := by rfl)
    (hn : (assignEach [.Name x px, .Name y py, .Name z pz] X.env).length = 3 := by rfl) (hst : (assignEach [.Name x px, .Name y py, .Name z pz] X.env).findIdx? (·.1) = none := by rfl)
    (g1 : (assignEach [.Name x px, .Name y py, .Name z pz] X.env).map (·.2) = assign (.Name x px) X.env :: (assignEach [.Name y py, .Name z pz] X.env).map (·.2) := by rfl) (g2 : (assignEach [.Name y py, .Name z pz] X.env).map (·.2) = assign (.Name y py) X.env :: (assignEach [.Name z pz] X.env).map (·.2) := by rfl) (g3 : (assignEach [.Name z pz] X.env).map (·.2) = assign (.Name z pz) X.env :: (assignEach [] X.env).map (·.2) := by rfl) :
    PS X (.Assign [.Tuple [.Name x px, .Name y py, .Name z pz] kt pt] (.Tuple [a, b, e3] k2 pt2) pos) (tS F (sPar3 i M1 fr1 f1 j M2 fr2 f2 l M3 fr3 f3)) :=
  (ps_asg (pe_tup (pa_cons ha (pa_cons hb (pa_cons h3 pa_nil he3) he2) he1)) (pg_tup hc (pgs_cons (pg_name hN hi hx hfx) (pgs_cons (pg_name hN hj hy hfy) (pgs_cons (pg_name hN hl hz hfz) pgs_nil g3) g2) g1) hn hst) hs hw h1).imp fun D σ H h =>
    tD_mono (par3_read h) fun v H1 q => tD_mono q fun w H2 q => tD_mono q fun u H3 ⟨u', v', w', e, k⟩ => ⟨by rw [e]; show 3 ≤ sizeLine; decide, fun p hp => ⟨p, _, rfl, .inl (.inl upd_same), by rw [e]; rfl, u', [v', w'], e, v', [w'], rfl, w', [], rfl, rfl, k _ (same_upd hp)⟩⟩

/-! ### x = [..] on one line -/
theorem ps_setLcD {i : Nat} {y : Str} {py : Pos} {di : DI} {dg : DG} {W : List Nat} {elt : Expr} {ifs : List Expr} {scope : Scope} {own : List (Str × Nat)} {spos : Pos} {e : DE} (hc : X.calm = true) (hN : X.N.Nodup) (hy : X.N[i]? = some y) (hyl : X.env.scope.names.lookup y = some .local)
    (hsw : swapsWith (.ListComp elt [⟨tg, iter, ifs, 0⟩] scope pos) (some (.Name y py)) spos.line X.env = pure true) (hi : PI X tg iter (tI F pr M di)) (ok : BlkOk X.N X.env.scope scope own) (hW : ∀ i, i ∈ W → i ∈ own.map (·.2))
    (hg : ∀ (Z : List Addr) (s : Shared) (H : Hp) (C : Addr) (cl : List (Str × Addr)) (fp : List Addr), PG (X.blk s H scope (compEnvC scope cl C X.env) fp) tg (tG (F.at Z) pr W dg)) (ht : ∀ (Z : List Addr) (s : Shared) (H : Hp) (C : Addr) (cl : List (Str × Addr)) (fp : List Addr), PTs (X.blk s H scope (compEnvC scope cl C X.env) fp) ifs (tDB (F.at Z) c))
    (he : ∀ (Z : List Addr) (s : Shared) (H : Hp) (C : Addr) (cl : List (Str × Addr)) (fp : List Addr), PE (X.blk s H scope (compEnvC scope cl C X.env) fp) elt (tD (F.at Z) M1 fr e)) (hs : ∀ x, foldedSetIterable iter X.env x = pure x := by intro _; rfl) :
    PS X (.Assign [.Name y py] (.ListComp elt [⟨tg, iter, ifs, 0⟩] scope pos) spos) (tS F (sSet i (List.range F.n) true (eLc di (own.map (·.2)) dg (bdLast c e)))) :=
  (ps_setLc hc hN hy hyl hsw hi ok (fun s H C cl fp => pg_z fun Z => hg Z s H C cl fp) (fun s H C cl fp => pts_z fun Z => ht Z s H C cl fp) (fun s H C cl fp => pe_z fun Z => he Z s H C cl fp) hs).imp fun D σ H h =>
    lc_top (TB := fun D Nx σ2 H2 => tBz F c σ2 H2 fun b H3 => if b = true then tEz F M1 fr e σ2 H3 fun y H4 => ∃ acc, H4 D = some (.lst acc) ∧ acc.length < sizeLine ∧ Nx (upd H4 D (.lst (acc ++ [y]))) else Nx H3) hW
      (fun L AL ρ σ H H1 D B ρ1 st rs H2 σ2 NxT K' P h hN => bd_last B P h hN) (asg_read h)
theorem ps_setLc2D {i : Nat} {y : Str} {py : Pos} {di di1 : DI} {dg dg1 : DG} {W W1 : List Nat} {pr1 : Bool} {c1 : DB} {elt tg1 iter1 : Expr} {ifs ifs1 : List Expr} {scope : Scope} {own : List (Str × Nat)} {vs1 : List Nat} {spos : Pos} {e : DE} (hc : X.calm = true) (hN : X.N.Nodup) (hy : X.N[i]? = some y) (hyl : X.env.scope.names.lookup y = some .local)
    (hsw : swapsWith (.ListComp elt [⟨tg, iter, ifs, 0⟩, ⟨tg1, iter1, ifs1, 0⟩] scope pos) (some (.Name y py)) spos.line X.env = pure true) (hi : PI X tg iter (tI F pr M di)) (ok : BlkOk X.N X.env.scope scope own) (hv : ∀ i ∈ vs1, i ∈ own.map (·.2)) (hW : ∀ i, i ∈ W → i ∈ own.map (·.2)) (hW1 : ∀ i, i ∈ W1 → i ∈ vs1)
    (hg : ∀ (Z : List Addr) (s : Shared) (H : Hp) (C : Addr) (cl : List (Str × Addr)) (fp : List Addr), PG (X.blk s H scope (compEnvC scope cl C X.env) fp) tg (tG (F.at Z) pr W dg)) (ht : ∀ (Z : List Addr) (s : Shared) (H : Hp) (C : Addr) (cl : List (Str × Addr)) (fp : List Addr), PTs (X.blk s H scope (compEnvC scope cl C X.env) fp) ifs (tDB (F.at Z) c))
    (hi1 : ∀ (Z : List Addr) (s : Shared) (H : Hp) (C : Addr) (cl : List (Str × Addr)) (fp : List Addr), PI (X.blk s H scope (compEnvC scope cl C X.env) fp) tg1 iter1 (tI (F.at Z) pr1 M2 di1))
    (hg1 : ∀ (Z : List Addr) (s : Shared) (H : Hp) (C : Addr) (cl : List (Str × Addr)) (fp : List Addr), PG (X.blk s H scope (compEnvC scope cl C X.env) fp) tg1 (tG (F.at Z) pr1 W1 dg1)) (ht1 : ∀ (Z : List Addr) (s : Shared) (H : Hp) (C : Addr) (cl : List (Str × Addr)) (fp : List Addr), PTs (X.blk s H scope (compEnvC scope cl C X.env) fp) ifs1 (tDB (F.at Z) c1))
    (he : ∀ (Z : List Addr) (s : Shared) (H : Hp) (C : Addr) (cl : List (Str × Addr)) (fp : List Addr), PE (X.blk s H scope (compEnvC scope cl C X.env) fp) elt (tD (F.at Z) M1 fr e)) (hs : ∀ x, foldedSetIterable iter X.env x = pure x := by intro _; rfl) (hs1 : ∀ env x, foldedSetIterable iter1 env x = pure x := by intro _ _; rfl) :
    PS X (.Assign [.Name y py] (.ListComp elt [⟨tg, iter, ifs, 0⟩, ⟨tg1, iter1, ifs1, 0⟩] scope pos) spos) (tS F (sSet i (List.range F.n) true (eLc di (own.map (·.2)) dg (bdFor c di1 vs1 dg1 (bdLast c1 e))))) :=
  (ps_setLc2 hc hN hy hyl hsw hi ok hv (fun s H C cl fp => pg_z fun Z => hg Z s H C cl fp) (fun s H C cl fp => pts_z fun Z => ht Z s H C cl fp) (fun s H C cl fp => pi_z fun Z => hi1 Z s H C cl fp) (fun s H C cl fp => pg_z fun Z => hg1 Z s H C cl fp) (fun s H C cl fp => pts_z fun Z => ht1 Z s H C cl fp) (fun s H C cl fp => pe_z fun Z => he Z s H C cl fp) hs hs1).imp fun D σ H h =>
    lc_top (TB := fun D Nx σ2 H2 => tBz F c σ2 H2 fun b H3 => if b = true then tIz F pr1 M2 di1 σ2 H3 fun J1 H4 => ∃ Wx : Nat → Nat → Hp → Prop, (∃ m, Wx 0 m H4) ∧ ∀ j k H, Wx j k H →
      (J1.stop j H ∧ Nx H) ∨ (J1.go j H ∧ ∃ Nx1 : Hp → Prop, (∀ H', Nx1 H' → ∃ k', k' < k ∧ Wx (j + 1) k' H') ∧ ∀ x H', J1.yld j H x H' → tGz F pr1 W1 dg1 x (wipe σ2 vs1) H' fun σ3 H5 => wipe σ3 vs1 = wipe σ2 vs1 ∧
        tBz F c1 σ3 H5 fun b H6 => if b = true then tEz F M1 fr e σ3 H6 fun y H7 => ∃ acc, H7 D = some (.lst acc) ∧ acc.length < sizeLine ∧ Nx1 (upd H7 D (.lst (acc ++ [y]))) else Nx1 H6) else Nx H3) hW
      (fun L AL ρ σ H H1 D B ρ1 st rs H2 σ2 NxT K' P h hN => bd_for (TB := fun Nx1 σ3 H5 => tBz F c1 σ3 H5 fun b H6 => if b = true then tEz F M1 fr e σ3 H6 fun y H7 => ∃ acc, H7 D = some (.lst acc) ∧ acc.length < sizeLine ∧ Nx1 (upd H7 D (.lst (acc ++ [y]))) else Nx1 H6) B hW1
        (fun ρ1 st rs H2 σ2 NxT K' P h hN => bd_last B P h hN) P h hN) (asg_read h)
end
end Ev
end

section
set_option maxRecDepth 100000
set_option maxHeartbeats 4000000
namespace Ev
open PySem PySem.Spec PyProof.Rows L2

/-! ### writes to lists -/
def calmD (fr : Bool) (d : PyData) : Bool := if fr && mutD d then inner0 d else noL d
def dropFor (M : List Nat) (fr : Bool) (d : PyData) (ρ : EnvD) : EnvD := if calmD fr d = true then ρ else dropE M ρ
/-- the list in slot i: its own, or a cell of the store -/
def rdL (i : Nat) (ρ : EnvD) (st : Store) : Option (List PyData × Option Nat) := match ρ[i]? with
  | some (some (.list ds, true)) => some (ds, none)
  | some (some (.dict [(.none, .int 3), (.int j, .none)], false)) => st[j.toNat]?.bind fun ds => if 0 ≤ j then some (ds, some j.toNat) else none
  | _ => none
def putL (i : Nat) (w : Option Nat) (ds : List PyData) (ρ : EnvD) (st : Store) : SR := match w with
  | none => .nx (ρ.set i (some (.list ds, true))) st
  | some j => .nx ρ (st.set j ds)

section
variable {F : Fx} {L : List Addr} {AL A : Addr → Prop} {ρ ρ1 : EnvD} {st st0 st1 st' : Store} {σ σ1 : L2.St} {H H1 H2 : Hp} {D : Ends} {M : List Nat} {fr : Bool}
/-- a value told, as what a list may hold -/
theorem told_nu {d : PyData} {v : V} (R : Rel F L AL ρ st0 σ H) (r : Rep F.G L H1 (AP (L ++ F.Z) ρ σ M H) d v) (fre : Fresh F.G L H H1 (AP (L ++ F.Z) ρ σ M H) fr d v) : Rep F.G L H1 (NU (L ++ F.Z) (dropFor M fr d ρ) σ) d v := by
  unfold dropFor calmD
  cases hb : (fr && mutD d) with
  | true =>
    have hb' := hb
    rw [Bool.and_eq_true] at hb'
    obtain ⟨a, o, rfl, h0, h1, m⟩ := fre hb'.1 hb'.2
    cases z : inner0 d with
    | true =>
      refine MutRep.rep (m.free z) h1 (AP.nu' R ⟨R.notZ h0, .inl h0⟩)
    | false => exact r.imp fun b k _ => AP.nu R k
  | false =>
    cases z : noL d with
    | true => exact r.free z
    | false => exact r.imp fun b k _ => AP.nu R k
theorem Rel.dropFor (R : Rel F L AL ρ st σ H) (M : List Nat) (fr : Bool) (d : PyData) : Rel F L AL (dropFor M fr d ρ) st σ H := by
  unfold Ev.dropFor
  split
  · exact R
  · exact R.drop M
theorem Frm.dropFor (M : List Nat) (fr : Bool) (d : PyData) : Frm F L ρ σ H (dropFor M fr d ρ) σ H := by
  unfold Ev.dropFor
  split
  · exact .refl
  · exact Frm.drop M

theorem own_same {i j : Nat} {d d' : PyData} {b : Addr} (hi : ρ[i]? = some (some (d, true))) (h : OwnAt (ρ.set i (some (d', true))) σ j b) : OwnAt ρ σ j b := by
  obtain ⟨⟨d2, h1⟩, h2⟩ := h
  by_cases e : i = j
  · subst e
    exact ⟨⟨d, hi⟩, h2⟩
  · rw [List.getElem?_set_ne e] at h1
    exact ⟨⟨d2, h1⟩, h2⟩
theorem kpo {i : Nat} {d : PyData} {a : Addr} {o o' : HO} {E : List Addr} (hi : ρ[i]? = some (some (d, true))) (ha : σ[i]? = some (some (.ref a))) (ho : H a = some o) (mo : mutO o = true) : ∀ b q, H b = some q → (mutO q = true → NU E ρ σ b) → upd H a o' b = some q := fun b q hb m => by
  rw [upd_ne]
  · exact hb
  · intro z
    subst z
    rw [ho] at hb
    cases hb
    exact (m mo).2 i ⟨⟨d, hi⟩, ha⟩
theorem kp_own {i : Nat} {d : PyData} {a : Addr} {o o' : HO} {E : List Addr} (hi : ρ[i]? = some (some (d, true))) (ha : σ[i]? = some (some (.ref a))) (ho : H a = some o) (mo : mutO o = true) : Kp (NU E ρ σ) H (upd H a o') := fun b q hb m _ => by
  rw [upd_ne]
  · exact hb
  · intro z
    subst z
    rw [ho] at hb
    cases hb
    exact (m mo).2 i ⟨⟨d, hi⟩, ha⟩
/-- the list (dict) that slot i owns is another one -/
theorem Rel.wrOwn (R : Rel F L AL ρ st σ H) {i : Nat} {d d' : PyData} {a : Addr} {o o' : HO} (hi : ρ[i]? = some (some (d, true))) (ha : σ[i]? = some (some (.ref a))) (ho : H a = some o) (mo : mutO o = true) (m : MutRep F.G L H (NU (L ++ F.Z) ρ σ) a d' o') :
    Rel F L AL (ρ.set i (some (d', true))) st σ (upd H a o') ∧ Frm F L ρ σ H (ρ.set i (some (d', true))) σ (upd H a o') := by
  obtain ⟨a', o2, q1, q2, q3, q4, q5⟩ := R.own i d hi
  rw [ha] at q1
  cases q1
  have kp : Kp (NU (L ++ F.Z) ρ σ) H (upd H a o') := kp_own hi ha ho mo
  have nu : ∀ b, NU (L ++ F.Z) ρ σ b → NU (L ++ F.Z) (ρ.set i (some (d', true))) σ b := fun b k => ⟨k.1, fun j hj => k.2 j (own_same hi hj)⟩
  have hil : i < ρ.length := (List.getElem?_eq_some_iff.mp hi).1
  have dm : ∀ b, H b ≠ none → upd H a o' b ≠ none := fun b h => by
    by_cases z : b = a
    · subst z; rw [upd_same]; exact fun z => nomatch z
    · rw [upd_ne z]; exact h
  have hmo : isTbl o' = false ∧ mutO o' = true := ⟨tbl_of m, m.mut⟩
  refine ⟨⟨by rw [List.length_set]; exact R.len, fun j d2 h => ?_, fun j d2 h => ?_, fun j k b h1 h2 => R.ne j k b (own_same hi h1) (own_same hi h2), ⟨fun b q h n t => ?_, fun b h => dm b (R.ext.dom b h)⟩, R.lx, R.lnd, R.ll, fun j b ds h1 h2 => ?_, fun b h => ⟨(R.al b h).1, fun j hj => (R.al b h).2 j (own_same hi hj)⟩, fun b h => dm b (R.ald b h), Tabs_kp R.tab fun b q h z => ?_, fun b h => dm b (R.zt b h), by rw [List.length_set]; exact R.nn⟩,
    ⟨fun b hb n => ⟨fun q h t => ?_, nu b n⟩, fun b q h z t => ?_, dm⟩⟩
  · by_cases e : i = j
    · subst e
      rw [List.getElem?_set_self hil] at h
      cases h
    · rw [List.getElem?_set_ne e] at h
      obtain ⟨v, h1, h2⟩ := R.val j d2 h
      exact ⟨v, h1, (h2.keep kp).imp fun b k _ => nu b k⟩
  · by_cases e : i = j
    · subst e
      rw [List.getElem?_set_self hil] at h
      cases h
      exact ⟨a, o', ha, upd_same, (m.keep kp).imp fun b k _ => nu b k, q4, q5⟩
    · rw [List.getElem?_set_ne e] at h
      obtain ⟨a2, o3, h1, h2, h3, h4, h5⟩ := R.own j d2 h
      refine ⟨a2, o3, h1, ?_, (h3.keep kp).imp fun b k _ => nu b k, h4, h5⟩
      rw [upd_ne]
      · exact h2
      · intro z
        subst z
        exact e (R.ne i j _ ⟨⟨d, hi⟩, ha⟩ ⟨⟨d2, h⟩, h1⟩)
  · rw [upd_ne (by intro z; rw [z, q5] at h; cases h)]
    exact R.ext.keep b q h n t
  · obtain ⟨vs, h3, h4, h5⟩ := R.cell j b ds h1 h2
    have hb : b ∈ L := List.mem_of_getElem? h1
    refine ⟨vs, ?_, h4, h5.keep ?_⟩
    · rw [upd_ne (by intro z; subst z; exact (notApp q4) hb)]
      exact h3
    · exact fun c q hc hm ht => kp c q hc (fun z => ⟨(R.al c (hm z)).1, (R.al c (hm z)).2⟩) ht
  · exact kpo (E := L ++ F.Z) hi ha ho mo b q h fun y => by rw [y] at z; cases z
  · exact kpo hi ha ho mo b q h fun _ => n
  · exact kpo (E := L ++ F.Z) hi ha ho mo b q h fun y => by rw [y] at z; cases z
/-- a cell of the store is another one -/
theorem Rel.wrCell (R : Rel F L AL ρ st σ H) {j : Nat} {a : Addr} {ds' : List PyData} {vs' : List V} (hj : L[j]? = some a) (rs : Reps F.G L H AL ds' vs') (hl : vs'.length ≤ sizeLine) : Rel F L AL ρ (st.set j ds') σ (upd H a (.lst vs')) ∧ Frm F L ρ σ H ρ σ (upd H a (.lst vs')) := by
  have ha : a ∈ L := List.mem_of_getElem? hj
  obtain ⟨vs0, h0⟩ := R.tr a ha
  have dm : ∀ b, H b ≠ none → upd H a (.lst vs') b ≠ none := fun b h => by
    by_cases z : b = a
    · subst z; rw [upd_same]; exact fun z => nomatch z
    · rw [upd_ne z]; exact h
  have E : Ext L H (upd H a (.lst vs')) := ⟨fun b q h n _ => by rw [upd_ne (fun z => n (by rw [z]; exact ha))]; exact h, dm⟩
  have kp : Kp AL H (upd H a (.lst vs')) := E.kp R.tr fun b h => notApp (R.al b h).1
  have R' : Rel F L AL ρ (st.set j ds') σ (upd H a (.lst vs')) := R.step E (by rw [List.length_set]; exact R.ll) (fun i b ds h1 h2 => by
    by_cases e : j = i
    · subst e
      rw [hj] at h1
      cases h1
      have hjl : j < st.length := by rw [← R.ll]; exact (List.getElem?_eq_some_iff.mp hj).1
      rw [List.getElem?_set_self hjl] at h2
      cases h2
      exact ⟨vs', upd_same, hl, rs.keep kp⟩
    · rw [List.getElem?_set_ne e] at h2
      obtain ⟨vs, h3, h4, h5⟩ := R.cell i b ds h1 h2
      refine ⟨vs, ?_, h4, h5.keep kp⟩
      rw [upd_ne]
      · exact h3
      · intro z
        subst z
        refine e ?_
        exact (List.getElem?_inj (List.getElem?_eq_some_iff.mp hj).1 R.lnd).mp (hj.trans h1.symm)) (Tabs_kp R.tab fun b q h z => by
    rw [upd_ne]
    · exact h
    · intro y
      rw [y, h0] at h
      cases h
      cases z)
  exact ⟨R', E.frm R⟩
theorem RepK.noNone {G : Gd} {d : PyData} {ds : List (PyData × PyData)} {kvs : List (Key × V)} (h : RepK G L H A ((.none, d) :: ds) kvs) : False := by
  generalize hx : ((PyData.none, d) :: ds) = l at h
  cases h with
  | nil => cases hx
  | @cons k _ _ _ _ _ _ => cases k <;> cases hx
theorem RepT.noNone {G : Gd} {d : PyData} {ds : List (PyData × PyData)} {kvs : List (List Int × Addr × V)} (h : RepT G L H A ((.none, d) :: ds) kvs) : False := by
  generalize hx : ((PyData.none, d) :: ds) = l at h
  cases h with
  | nil => cases hx
  | cons _ _ _ _ => cases hx
theorem rdL_ref {i : Nat} {ds : List PyData} {w : Option Nat} (R : Rel F L AL ρ st σ H) (h : rdL i ρ st1 = some (ds, w)) : ∃ a vs, σ[i]? = some (some (.ref a)) ∧ H a = some (.lst vs) ∧
    ((w = none ∧ ρ[i]? = some (some (.list ds, true))) ∨ ∃ j, w = some j ∧ L[j]? = some a ∧ st1[j]? = some ds) := by
  unfold rdL at h
  split at h
  · rename_i ds' q
    cases h
    obtain ⟨a, o, h1, h2, h3, _⟩ := R.own i _ q
    cases h3 with
    | lst n r => exact ⟨a, _, h1, h2, .inl ⟨rfl, q⟩⟩
  · rename_i j q
    obtain ⟨v, h1, h2⟩ := R.val i _ q
    cases z : st1[j.toNat]? with
    | none => rw [z] at h; cases h
    | some ds' =>
      rw [z] at h
      have h : (if 0 ≤ j then some (ds', some j.toNat) else none) = some (ds, w) := h
      split at h
      · rename_i hj
        cases h
        cases h2 with
        | loc e =>
          obtain ⟨vs, hv⟩ := R.tr _ (List.mem_of_getElem? e)
          exact ⟨_, vs, h1, hv, .inr ⟨_, rfl, e, z⟩⟩
        | dic _ _ _ r =>
          exact r.noNone.elim
      · cases h
  · cases h
/-- the list in slot i at hand -/
theorem rdL_at {i : Nat} {ds : List PyData} {w : Option Nat} (R : Rel F L AL ρ st σ H) (h : rdL i ρ st = some (ds, w)) : ∃ a vs A0, σ[i]? = some (some (.ref a)) ∧ H a = some (.lst vs) ∧ vs.length ≤ sizeLine ∧ Reps F.G L H A0 ds vs ∧ (w = none → A0 = NU (L ++ F.Z) ρ σ) ∧ (∀ b, A0 b → NU (L ++ F.Z) ρ σ b) ∧
    ∀ ds' vs', Reps F.G L H A0 ds' vs' → vs'.length ≤ sizeLine → ∃ ρ' st', putL i w ds' ρ st = .nx ρ' st' ∧ Rel F L AL ρ' st' σ (upd H a (.lst vs')) ∧ Frm F L ρ σ H ρ' σ (upd H a (.lst vs')) := by
  obtain ⟨a, vs, h1, h2, ⟨rfl, hi⟩ | ⟨j, rfl, hj, hs⟩⟩ := rdL_ref R h
  · obtain ⟨a', o, q1, q2, q3, _⟩ := R.own i _ hi
    rw [h1] at q1
    cases q1
    rw [h2] at q2
    cases q2
    cases q3 with
    | lst n r => exact ⟨a, vs, _, h1, h2, n, r, fun _ => rfl, fun _ h => h, fun ds' vs' rs hl => ⟨_, _, rfl, R.wrOwn hi h1 h2 rfl (.lst hl rs)⟩⟩
  · obtain ⟨vs', q1, q2, q3⟩ := R.cell j a ds hj hs
    rw [h2] at q1
    cases q1
    exact ⟨a, vs, AL, h1, h2, q2, q3, (fun z => nomatch z), fun b h => R.al b h, fun ds' vs' rs hl => ⟨_, _, rfl, R.wrCell hj rs hl⟩⟩
end

def sApp (i : Nat) (M : List Nat) (fr : Bool) (f : DE) : DS := fun ρ st => if (rdL i ρ st).isSome = true then eS (f ρ st) fun d st => match rdL i (dropFor M fr d ρ) st with
  | some (ds, w) => if ds.length < sizeLine ∧ (w = none ∨ noL d = true) then putL i w (ds ++ [d]) (dropFor M fr d ρ) st else .stuck
  | none => .stuck else .stuck
def intOf : PyData → Option Int
  | .int i => some i
  | _ => none
def sSub (i : Nat) (M : List Nat) (fr : Bool) (fi f : DE) : DS := fun ρ st => eS (f ρ st) fun d st => if (rdL i ρ st).isSome = true then eS (fi ρ st) fun k st => match rdL i (dropFor M fr d ρ) st, intOf k with
  | some (ds, w), some k => (match ixN ds.length k with
    | some j => if w = none ∨ noL d = true then putL i w (ds.set j d) (dropFor M fr d ρ) st else .stuck
    | none => .stuck)
  | _, _ => .stuck else .stuck
section
variable {X : Cx} {F : Fx} {M M1 M2 : List Nat} {fr fr1 fr2 pr : Bool} {e idx : Expr} {f fi : DE} {pos p ap cp : Pos}
theorem tyL {K : PySem.W.Frag} {a : Addr} {vs : List V} {H : Hp} (h : H a = some (.lst vs)) : tyV K "list" (.ref a) H := .inl ⟨rfl, vs, .inl (.inl h)⟩
theorem ps_appD {i : Nat} {x : Str} (hN : X.N[i]? = some x) (hv : Vis X.env.scope x) (he : PE X e (tD F M fr f)) (hd : (x == ("__debug__" : Str)) = false := by decide) (hcd : (x == ("__classdict__" : Str)) = false := by decide)
    (hs : swapsWith (.Call (.Attribute (.Name x p) "append" ap) [e] [] cp) none pos.line X.env = pure false := by rfl) (hbase : attributeBase (.Name x p) "append" X.env (eval (.Name x p) X.env) = eval (.Name x p) X.env := by rfl)
    (hfew : ((backTo cp (starEach [e] X.env)).all (fun x => !x.1) && (backToKw cp (keywordEach [] X.env)).all (fun x => x.1.isSome) && decide ([e].length + ([] : List Keyword).length + (if ([] : List Keyword).isEmpty then 0 else 1) < 30)) = true := by rfl)
    (hline : (ap.endLine == cp.line) = true := by rfl) (hs1 : starEach [e] X.env = (false, eval e X.env) :: starEach [] X.env := by rfl) (hplain : (backTo cp (starEach [] X.env)).any (·.1) = false := by rfl) :
    PS X (.Expr (.Call (.Attribute (.Name x p) "append" ap) [e] [] cp) pos) (tS F (sApp i M fr f)) :=
  (ps_expr (pe_bm PySem.F.plainAttrs_list PySem.F.slot_list_append PySem.F.type_list_append mt_append (pe_var hN hv hd hcd) (pa_cons he pa_nil hs1) hbase hfew hline hs1 hplain) hs).imp fun D σ H ⟨L, AL, ρ, st, R, h⟩ => by
    have h' : ∃ z, rdL i ρ st = some z ∧ SPost F L AL ρ σ H D (eS (f ρ st) fun d st => match rdL i (dropFor M fr d ρ) st with
        | some (ds, w) => if ds.length < sizeLine ∧ (w = none ∨ noL d = true) then putL i w (ds ++ [d]) (dropFor M fr d ρ) st else .stuck
        | none => .stuck) := by
      unfold sApp at h
      cases hr : rdL i ρ st with
      | none => rw [hr] at h; exact h.elim
      | some z =>
        rw [hr] at h
        exact ⟨z, rfl, h⟩
    obtain ⟨⟨ds0, w0⟩, hr, h⟩ := h'
    obtain ⟨a, vs, h1, h2, _⟩ := rdL_ref R hr
    refine ⟨.ref a, h1, tyL h2, ?_⟩
    refine eS_read R h fun d st1 v H1 R1 E1 r fre h => ?_
    cases q : rdL i (dropFor M fr d ρ) st1 with
    | none => rw [q] at h; exact h.elim
    | some z =>
      obtain ⟨ds, w⟩ := z
      rw [q] at h
      have h : SPost F L AL ρ σ H D (if ds.length < sizeLine ∧ (w = none ∨ noL d = true) then putL i w (ds ++ [d]) (dropFor M fr d ρ) st1 else .stuck) := h
      by_cases hl : ds.length < sizeLine ∧ (w = none ∨ noL d = true)
      · rw [if_pos hl] at h
        have Rd := R1.dropFor M fr d
        obtain ⟨a', vs', A0, k1, k2, k3, k4, k5, k6, k7⟩ := rdL_at Rd q
        rw [h1] at k1
        cases k1
        have rv : Reps F.G L H1 A0 [d] [v] := by
          rcases hl.2 with z | z
          · rw [k5 z]
            exact .cons (told_nu R r fre) .nil
          · exact .cons (r.free z) .nil
        have hlv : vs'.length < sizeLine := by rw [← k4.length]; exact hl.1
        obtain ⟨ρ', st', e1, R', fm⟩ := k7 _ _ (k4.append rv) (by simp; omega)
        rw [e1] at h
        exact ⟨a, vs', v, rfl, rfl, k2, hlv, h σ _ R' (((E1.frm R).trans (Frm.dropFor M fr d)).trans fm)⟩
      · rw [if_neg hl] at h
        exact h.elim
theorem ps_subD {i : Nat} {x : Str} {tp : Pos} (hN : X.N[i]? = some x) (hv : Vis X.env.scope x) (he : PE X e (tD F M fr f)) (hi : PE X idx (tD F M1 fr1 fi)) (hd : (x == ("__debug__" : Str)) = false := by decide) (hcd : (x == ("__classdict__" : Str)) = false := by decide)
    (ha : ∀ v, assign (.Subscript (.Name x p) idx tp) X.env v = (do
      let ov ← holding [v] (eval (.Name x p) X.env)
      let iv ← holding [v, ov] (eval idx X.env)
      standAt tp
      holding [v, ov, iv] (setItem ov iv v)
      release [v, ov, iv] []) := by intro _; rfl)
    (hs : swapsWithSole [.Subscript (.Name x p) idx tp] e pos.line X.env = pure false := by rfl) (hw : swappedStores [.Subscript (.Name x p) idx tp] e X.env = pure none := by rfl)
    (h1 : (assignEach [.Subscript (.Name x p) idx tp] X.env).map (·.2) = [assign (.Subscript (.Name x p) idx tp) X.env] := by rfl) :
    PS X (.Assign [.Subscript (.Name x p) idx tp] e pos) (tS F (sSub i M fr fi f)) :=
  (ps_asg he (pg_sub (pe_var hN hv hd hcd) hi set_list ha) hs hw h1).imp fun D σ H ⟨L, AL, ρ, st, R, h⟩ => by
    refine eS_read R h fun d st1 v H1 R1 E1 r fre h => ?_
    have h' : ∃ z, rdL i ρ st1 = some z ∧ SPost F L AL ρ σ H D (eS (fi ρ st1) fun k st => match rdL i (dropFor M fr d ρ) st, intOf k with
        | some (ds, w), some k => (match ixN ds.length k with
          | some j => if w = none ∨ noL d = true then putL i w (ds.set j d) (dropFor M fr d ρ) st else .stuck
          | none => .stuck)
        | _, _ => .stuck) := by
      cases hr : rdL i ρ st1 with
      | none => rw [hr] at h; exact h.elim
      | some z =>
        rw [hr] at h
        exact ⟨z, rfl, h⟩
    obtain ⟨⟨ds0, w0⟩, hr, h⟩ := h'
    obtain ⟨a, vs, h1, h2, _⟩ := rdL_ref R1 hr
    refine ⟨.ref a, h1, ?_⟩
    refine eS_read R1 h fun k st2 vk H2 R2 E2 rk _ h => ?_
    cases q : rdL i (dropFor M fr d ρ) st2 with
    | none => rw [q] at h; exact h.elim
    | some z =>
      obtain ⟨ds, w⟩ := z
      cases rk with
      | int k =>
        rw [q] at h
        have h : SPost F L AL ρ σ H D (match ixN ds.length k with
          | some j => if w = none ∨ noL d = true then putL i w (ds.set j d) (dropFor M fr d ρ) st2 else .stuck
          | none => .stuck) := h
        cases qj : ixN ds.length k with
        | none => rw [qj] at h; exact h.elim
        | some j =>
          rw [qj] at h
          have h : SPost F L AL ρ σ H D (if w = none ∨ noL d = true then putL i w (ds.set j d) (dropFor M fr d ρ) st2 else .stuck) := h
          by_cases hl : w = none ∨ noL d = true
          · rw [if_pos hl] at h
            have Rd := R2.dropFor M fr d
            obtain ⟨a', vs', A0, k1, k2, k3, k4, k5, k6, k7⟩ := rdL_at Rd q
            rw [h1] at k1
            cases k1
            have rv : Rep F.G L H2 A0 d v := by
              rcases hl with z | z
              · rw [k5 z]
                exact (told_nu R r fre).keep (E2.kp R1.tr fun b hb => notApp hb.1)
              · exact Rep.free ((Rep.later R1 E2 r)) z
            obtain ⟨ρ', st', e1, R', fm⟩ := k7 _ _ (k4.set rv j) (by rw [List.length_set]; exact k3)
            rw [e1] at h
            exact ⟨a, vs', k, j, rfl, rfl, k2, by rw [← k4.length]; exact qj, h σ _ R' ((((E1.trans E2).frm R).trans (Frm.dropFor M fr d)).trans fm)⟩
          · rw [if_neg hl] at h
            exact h.elim
      | _ => rw [q] at h; exact h.elim
end
end Ev
end

section
set_option maxRecDepth 100000
set_option maxHeartbeats 4000000
namespace Ev
open PySem PySem.Spec PyProof.Rows L2

/-! ### defs -/
/-- the store's cells, the tables, ahead of a call and behind it -/
structure Gnd (G : Gd) (T : List (Addr × Str)) (Z L : List Addr) (AL : Addr → Prop) (st : Store) (H : Hp) : Prop where
  lnd : L.Nodup
  ll : L.length = st.length
  cell : ∀ (i : Nat) a ds, L[i]? = some a → st[i]? = some ds → ∃ vs, H a = some (.lst vs) ∧ vs.length ≤ sizeLine ∧ Reps G L H AL ds vs
  al : ∀ b, AL b → b ∉ L ++ Z
  ald : ∀ b, AL b → H b ≠ none
  tab : LamX.Tabs T H
  zt : ∀ b ∈ Z, H b ≠ none
theorem Rel.gnd {F : Fx} {L : List Addr} {AL : Addr → Prop} {ρ : EnvD} {st : Store} {σ : L2.St} {H : Hp} (R : Rel F L AL ρ st σ H) : Gnd F.G F.T F.Z L AL st H := ⟨R.lnd, R.ll, R.cell, fun b h => (R.al b h).1, R.ald, R.tab, R.zt⟩
/-- a new list, of a call -/
def FreshC (G : Gd) (Z L : List Addr) (H H' : Hp) (f : Bool) (d : PyData) (v : V) : Prop := f = true → mutD d = true → ∃ a o, v = .ref a ∧ H a = none ∧ H' a = some o ∧ MutRep G L H' (fun b => b ∉ L ++ Z ∧ b ≠ a) a d o
abbrev DF := List PyData → Store → ER PyData
def CPost (G : Gd) (xc : Nat → Addr) (T : List (Addr × Str)) (Z L : List Addr) (AL : Addr → Prop) (H : Hp) (fr : Bool) (Q : VK) (E : XK) : ER PyData → Prop
  | .ok d st => ∀ v H', Gnd G T Z L AL st H' → Ext L H H' → Rep G L H' (fun b => b ∉ L ++ Z) d v → FreshC G Z L H H' fr d v → Q v H'
  | .exn x st => ∀ cls dd H' (F : Fx), F.xc = xc → F.G = G → Gnd G T Z L AL st H' → Ext L H H' → XRep F x cls dd H' → E cls dd H'
  | .stuck => False
/-- a def's promise: its mirror m -/
def spD (G : Gd) (xc : Nat → Addr) (T : List (Addr × Str)) (n : Nat) (fr : Bool) (m : DF) : Sp := fun vs H Q E => vs.length = n ∧ ∃ L AL Z ds st, Gnd G T Z L AL st H ∧ Reps G L H (fun b => b ∉ L ++ Z) ds vs ∧ CPost G xc T Z L AL H fr Q E (m ds st)

def finD (fr : Bool) : SR → ER PyData
  | .nx _ st => .ok .none st
  | .ret d f st => if (fr && !f && mutD d) = true then .stuck else .ok d st
  | .exn x st => .exn x st
  | _ => .stuck
/-- a def's mirror: N names, n of them parameters -/
def defD (N n : Nat) (fr : Bool) (bm : DS) : DF := fun ds st => if ds.length = n then finD fr (bm (ds.map (fun d => some (d, false)) ++ List.replicate (N - n) none) st) else .stuck

theorem pss_stuckD {X : Cx} {F : Fx} {ss : List Stmt} : PSs X ss (tS F fun _ _ => .stuck) := ⟨fun _ _ _ _ _ _ ⟨_, _, _, _, _, h⟩ => h.elim⟩
theorem ps_stuckD {X : Cx} {F : Fx} {ss : Stmt} : PS X ss (tS F fun _ _ => .stuck) := ⟨fun _ _ _ _ _ _ ⟨_, _, _, _, _, h⟩ => h.elim⟩

section
variable {P : Program} {w : World} {K : PySem.W.Frag} {mg : Str → Option Value} {base : Heap} {x qual : Str} {params : Arguments} {body : List Stmt} {scope : Scope} {dvs : List V} {kws : List (Str × V)} {f : Addr} {fd : FuncData}
theorem rel0 {G : Gd} {xc : Nat → Addr} {T : List (Addr × Str)} {Z L : List Addr} {AL : Addr → Prop} {st : Store} {H : Hp} {E : XK} {N : List Str} {ds : List PyData} {vs : List V} (g : Gnd G T Z L AL st H) (r : Reps G L H (fun b => b ∉ L ++ Z) ds vs) (hn : vs.length ≤ N.length) :
    Rel ⟨G, xc, H, L, T, E, Z, N.length⟩ L AL (ds.map (fun d => some (d, false)) ++ List.replicate (N.length - vs.length) none) st (start N vs) H := by
  have hl := r.length
  have no : ∀ (i : Nat) d, (ds.map (fun d => some (d, false)) ++ List.replicate (N.length - vs.length) none : EnvD)[i]? = some (some (d, true)) → False := fun i d h => by
    rw [List.getElem?_append] at h
    split at h
    · rw [List.getElem?_map] at h
      cases z : ds[i]? with
      | none => rw [z] at h; cases h
      | some d' => rw [z] at h; cases h
    · rw [List.getElem?_replicate] at h
      split at h <;> cases h
  have nu : ∀ b, b ∉ L ++ Z → NU (L ++ Z) (ds.map (fun d => some (d, false)) ++ List.replicate (N.length - vs.length) none) (start N vs) b := fun b h => ⟨h, fun i ⟨⟨d, hi⟩, _⟩ => no i d hi⟩
  refine ⟨by simp [L2.start, hl], fun i d h => ?_, fun i d h => (no i d h).elim, fun i j a ⟨⟨d, hi⟩, _⟩ => (no i d hi).elim, .refl _, ⟨[], by simp, fun b z => by cases z⟩, g.lnd, g.ll, g.cell, fun b h => ⟨g.al b h, fun i ⟨⟨d, hi⟩, _⟩ => no i d hi⟩, g.ald, g.tab, g.zt, by simp [hl]; omega⟩
  rw [List.getElem?_append] at h
  split at h
  · rename_i hi
    rw [List.getElem?_map] at h
    cases z : ds[i]? with
    | none => rw [z] at h; cases h
    | some d' =>
      rw [z] at h
      cases h
      obtain ⟨v, h1, h2⟩ := r.get' z
      refine ⟨v, ?_, h2.imp fun b k _ => nu b k⟩
      unfold L2.start
      rw [List.getElem?_append_left (by simpa [hl] using hi), List.getElem?_map, h1]
      rfl
  · rw [List.getElem?_replicate] at h
    split at h <;> cases h
/-- THE RULE: a def whose body has been read keeps its promise -/
theorem okD {G : Gd} {xc : Nat → Addr} {T : List (Addr × Str)} {N ps : List Str} {k n : Nat} {fr : Bool} {bm : DS} (F : FunD K x qual params body scope dvs kws f fd) (S : FnScope N ps scope) (hps : ps.length = n) (hle : n ≤ N.length)
    (hb : ∀ (cdv : Value) (A : Around) (outer : List Env) (s : Shared) (H : Hp) (E : XK) (L Z : List Addr), Room k (A.deeper (envOfC qual scope s.heap.objs.size f cdv)) →
      PSs (cxOf (L2.CX P w) P w K mg base N qual scope f cdv A outer s H E) body (tS ⟨G, xc, H, L, T, E, Z, N.length⟩ bm)) :
    FnOk P w K mg base (L2.CX P w) (k + 1) f fd ps (spD G xc T n fr (defD N.length n fr bm)) := by
  refine F.ok S (fun vs H Q E h => by rw [h.1, hps]) fun cdv A outer s H vs Q E hr ⟨hn, L, AL, Z, ds, st, g, r, h⟩ => ?_
  refine ⟨_, hb cdv A outer s H E L Z hr, L, AL, _, st, rel0 g r (by omega), ?_⟩
  have hl := r.length
  unfold defD at h
  rw [if_pos (by omega : ds.length = n)] at h
  rw [hn]
  generalize bm (ds.map (fun d => some (d, false)) ++ List.replicate (N.length - n) none) st = r0 at h
  cases r0 with
  | nx ρ' st' => exact fun σ' H' R' fm => h _ H' R'.gnd R'.ext .non fun z1 z2 => by cases z2
  | brk ρ' st' => exact h.elim
  | ct ρ' st' => exact h.elim
  | stuck => exact h.elim
  | exn x st' => exact fun ρ' σ' cls dd H' R' xr => h cls dd H' _ rfl rfl R'.gnd R'.ext xr
  | ret d f st' =>
    intro ρ' σ' v H' R' rp fre
    have h : CPost G xc T Z L AL H fr Q E (if (fr && !f && mutD d) = true then .stuck else .ok d st') := h
    by_cases c : (fr && !f && mutD d) = true
    · rw [if_pos c] at h; exact h.elim
    · rw [if_neg c] at h
      refine h v H' R'.gnd R'.ext rp fun z1 z2 => ?_
      have hf : f = true := by
        cases f with
        | true => rfl
        | false => exact absurd (by simp [z1, z2]) c
      exact fre hf z2
end

section
variable {X : Cx} {F : Fx} {M : List Nat} {fr : Bool} {e : Expr} {es : List Expr} {fs : DEs} {pos p : Pos} {m : DF}
def eCall (m : DF) (fs : DEs) : DE := fun ρ st => (fs ρ st).bind fun ds st => m ds st
theorem call_read {G : Gd} {xc : Nat → Addr} {T : List (Addr × Str)} {n : Nat} (h1 : F.G = G) (h2 : F.xc = xc) (h3 : F.T = T) (hm : ∀ ds st, ds.length ≠ n → m ds st = .stuck) {σ : L2.St} {H : Hp} {Q : VK} (h : tD F (List.range F.n) fr (eCall m fs) σ H Q) : tDs F M fs σ H fun vs H1 => spD G xc T n fr m vs H1 Q F.EX := by
  subst h1 h2 h3
  obtain ⟨L, AL, ρ, st, R, h⟩ := h
  refine tDs_bind (P := DPost F L AL ρ σ H (List.range F.n) fr Q) R h (fun x st' h => h) (fun h => h) fun ds st1 vs H1 R1 E1 rs h => ?_
  have hn : ds.length = n := by
    by_cases z : ds.length = n
    · exact z
    · rw [hm ds st1 z] at h
      exact h.elim
  refine ⟨by rw [← rs.length, hn], L, AL, F.Z, ds, st1, R1.gnd, rs.imp fun b k _ => k.1, ?_⟩
  have up : ∀ b, b ∉ L ++ F.Z → AP (L ++ F.Z) ρ σ (List.range F.n) H b := fun b k => ⟨k, .inr fun i ⟨⟨d, hi⟩, _⟩ => by
    have := (List.getElem?_eq_some_iff.mp hi).1
    rw [List.mem_range, ← R.nn]
    exact this⟩
  cases q : m ds st1 with
  | stuck => rw [q] at h; exact h
  | ok d st2 =>
    rw [q] at h
    intro v H2 g2 E2 rp fre
    refine h v H2 (R1.step E2 g2.ll g2.cell g2.tab) (E1.trans E2) (rp.imp fun b k _ => up b k) fun z1 z2 => ?_
    obtain ⟨a, o, e1, e2, e3, e4⟩ := fre z1 z2
    exact ⟨a, o, e1, E1.free e2, e3, e4.imp fun b k _ => ⟨up b k.1, k.2⟩⟩
  | exn x st2 =>
    rw [q] at h
    intro cls dd H2 F' x1 x2 g2 E2 xr
    refine h cls dd H2 (R1.step E2 g2.ll g2.cell g2.tab) (E1.trans E2) ?_
    obtain ⟨r1, r2⟩ := xr
    exact ⟨by rw [← x1]; exact r1, by rw [← x2]; exact r2⟩
theorem defD_len {N n : Nat} {fr : Bool} {bm : DS} : ∀ ds st, ds.length ≠ n → defD N n fr bm ds st = .stuck := fun ds st h => by
  unfold defD
  rw [if_neg h]
variable {k n : Nat} {f : Addr} {fd : FuncData} {ps : List Str} {x : Str} {G : Gd} {xc : Nat → Addr} {T : List (Addr × Str)}
theorem pe_callD (Fn : FnOk X.prog X.w X.K X.mg X.base (L2.CX X.prog X.w) k f fd ps (spD G xc T n fr m)) (hr : Room k X.A) (hg : Gl X x) (hm : X.mg x = some (.ref f)) (hk : PySem.W.keepIn X.K (.ref f) = true) (hb : Binds X.K fd ps []) (hx : Passes (L2.CX X.prog X.w) X F.EX)
    (h1 : F.G = G) (h2 : F.xc = xc) (h3 : F.T = T) (hl : ∀ ds st, ds.length ≠ n → m ds st = .stuck)
    (ha : PA X (e :: es) (tDs F M fs)) (hdb : (x == ("__debug__" : Str)) = false := by decide) (he : starEach (e :: es) X.env = (false, eval e X.env) :: starEach es X.env := by rfl) (hpl : (backTo pos (starEach es X.env)).any (·.1) = false := by rfl) :
    PE X (.Call (.Name x p) (e :: es) [] pos) (tD F (List.range F.n) fr (eCall m fs)) :=
  (pe_call Fn hr hg hm hk hb .nil hx ha hdb he hpl).imp fun σ H Q h => by
    have := call_read (M := M) h1 h2 h3 hl h
    show tDs F M fs σ H fun vs H1 => spD G xc T n fr m (vs ++ []) H1 Q F.EX
    simpa using this
theorem pe_call0D (Fn : FnOk X.prog X.w X.K X.mg X.base (L2.CX X.prog X.w) k f fd ps (spD G xc T n fr m)) (hr : Room k X.A) (hg : Gl X x) (hm : X.mg x = some (.ref f)) (hk : PySem.W.keepIn X.K (.ref f) = true) (hb : Binds X.K fd ps []) (hx : Passes (L2.CX X.prog X.w) X F.EX)
    (h1 : F.G = G) (h2 : F.xc = xc) (h3 : F.T = T) (hl : ∀ ds st, ds.length ≠ n → m ds st = .stuck) (hdb : (x == ("__debug__" : Str)) = false := by decide) :
    PE X (.Call (.Name x p) [] [] pos) (tD F (List.range F.n) fr (eCall m eNil)) :=
  (pe_call0 Fn hr hg hm hk hb .nil hx hdb).imp fun σ H Q h => by
    obtain ⟨L, AL, ρ, st, R, hh⟩ := call_read (M := []) h1 h2 h3 hl h
    exact hh [] H R (.refl _) .nil

/-! ### raise -/
theorem pmk_bare {C : Addr} {bmB : List Value} {B newId initId : String} (Fx : ExcBaseFacts B newId initId bmB) (q : PySem.W.excIn X.K C bmB newId = true) (gC : X.mg x = some (.ref C)) (kC : PySem.W.keepIn X.K (.ref C) = true) (r : Raises X (.ref C)) (hg : Gl X x)
    (hdb : (x == ("__debug__" : Str)) = false := by decide) : PMk X (.Call (.Name x p) [] [] pos) (fun _ H Q => Q (.ref C) none H) := by
  intro pins s σ H Q I h
  refine wpAny_Call_Name_kw (ld_glob I hg gC ?_ hdb)
  refine PySem.W.callWith_K0 I.kIn kC ?_
  obtain ⟨_, _, _, _, _, _, _, _, _, _, _, _, _, _, _, _, _, g1, g2, g3, Tx⟩ := exc_obj I.kIn q
  exact wpAny_call_exc_subT Fx Tx g1 g2 g3 (fun h' e hm => mk_of I hm r h (I.hok.gone hm.new)) (Nat.zero_le _)
def sRaise (c : Nat) : DS := fun _ st => .exn ⟨c, []⟩ st
theorem ps_raiseD {c : Nat} {e : Expr} (hc : X.calm = true) (tk : Takes X (fun cls d _ H => F.EX cls d H)) (he : PMk X e (fun _ H Q => Q (.ref (F.xc c)) none H)) : PS X (.Raise (some e) none pos) (tS F (sRaise c)) :=
  (ps_raise hc tk he).imp fun D σ H ⟨L, AL, ρ, st, R, h⟩ => h ρ σ _ none H R ⟨rfl, .inl ⟨rfl, rfl⟩⟩
end
end Ev
end

section
set_option maxRecDepth 100000
set_option maxHeartbeats 4000000
namespace Ev
open PySem PySem.Spec PyProof.Rows L2

/-! ### subscripts -/
def ixD (c k : PyData) : Option PyData := match c, k with
  | .list ds, .int i => atI ds i
  | .tuple ds, .int i => atI ds i
  | .str z, .int i => if z.length ≤ sizeLine then (atI z.cps.toList i).map fun c => .str ⟨#[c]⟩ else none
  | _, _ => none
theorem atI_rep {G : Gd} {L : List Addr} {H : Hp} {A : Addr → Prop} {ds : List PyData} {vs : List V} {i : Int} {d : PyData} (r : Reps G L H A ds vs) (h : atI ds i = some d) : ∃ v, atI vs i = some v ∧ Rep G L H A d v := by
  unfold atI at h ⊢
  rw [← r.length]
  cases q : ixN ds.length i with
  | none => rw [q] at h; cases h
  | some j =>
    rw [q] at h
    exact r.get' h
section
variable {X : Cx} {F : Fx} {G : Gd} {M M1 M2 M3 : List Nat} {fr fr1 fr2 fr3 : Bool} {e a b lo hi : Expr} {es : List Expr} {f fa fb : DE} {fs : DEs} {pos p p2 : Pos}
theorem ix_D (hK : G.K = X.K) : IxR X (r2 G false ixD) := by
  intro value slice pins s σ H x y v u Q I rx ry h hs
  obtain ⟨L, A, d, e, w, r1, r2, hw, k⟩ := r2_ex h
  unfold ixD at hw
  split at hw
  · rename_i ds i
    cases r2
    cases r1 with
    | lst h1 n1 q1 =>
      obtain ⟨z, e1, e2⟩ := atI_rep q1 hw
      exact ix_list value slice pins s σ H _ _ v u Q I rx ry ⟨_, _, i, z, rfl, rfl, h1.sq, e1, k_old k e2 fun z => nomatch z⟩ hs
  · rename_i ds i
    cases r2
    cases r1 with
    | tup h1 n1 q1 =>
      obtain ⟨z, e1, e2⟩ := atI_rep q1 hw
      exact ix_tup value slice pins s σ H _ _ v u Q I rx ry ⟨_, _, i, z, rfl, rfl, by rw [← hK]; exact h1.sq, e1, k_old k e2 fun z => nomatch z⟩ hs
  · rename_i z i
    cases r2
    cases r1
    split at hw
    · rename_i hz
      cases q : atI z.cps.toList i with
      | none => rw [q] at hw; cases hw
      | some c =>
        rw [q] at hw
        cases hw
        exact ix_str value slice pins s σ H _ _ v u Q I rx ry ⟨z, i, c, rfl, rfl, hz, q, k_str k⟩ hs
    · cases hw
  · cases hw
theorem pe_ixD {g : PyData → PyData → Option PyData} (hr : IxR X (r2 F.G false g)) (ha : PE X a (tD F M1 fr1 fa)) (hb : PE X b (tD F M2 fr2 fb)) (hs : PlainIx b) : PE X (.Subscript a b pos) (tD F (M1 ++ M2) false (eOp g fa fb)) := (pe_ix hr ha hb hs).imp fun σ H Q h => op2_read h

/-! ### slices -/
abbrev DO := EnvD → Store → ER (Option Int)
def oNone : DO := fun _ st => .ok none st
def oSome (f : DE) : DO := fun ρ st => (f ρ st).bind fun d st => .of ((intOf d).map some) st
def OPost (F : Fx) (L : List Addr) (AL : Addr → Prop) (ρ : EnvD) (σ : L2.St) (H : Hp) (Q : Option Int → Hp → Prop) : ER (Option Int) → Prop
  | .ok b st => ∀ H', Rel F L AL ρ st σ H' → Ext L H H' → Q b H'
  | .exn x st => ∀ cls dd H', Rel F L AL ρ st σ H' → Ext L H H' → XRep F x cls dd H' → F.EX cls dd H'
  | .stuck => False
def tOD (F : Fx) (f : DO) : TO := fun σ H Q => ∃ L AL ρ st, Rel F L AL ρ st σ H ∧ OPost F L AL ρ σ H Q (f ρ st)
theorem _root_.L2.PO.imp {X : Cx} {e : Option Expr} {t t' : TO} (h : PO X e t) (k : ∀ σ H Q, t' σ H Q → t σ H Q) : PO X e t' := ⟨fun pins s σ H Q I q => h.run pins s σ H Q I (k _ _ _ q)⟩
theorem po_noneD : PO X none (tOD F oNone) := po_none.imp fun σ H Q ⟨L, AL, ρ, st, R, h⟩ => h H R (.refl _)
theorem po_someD (h : PE X e (tD F M fr f)) : PO X (some e) (tOD F (oSome f)) := (po_some h).imp fun σ H Q ⟨L, AL, ρ, st, R, h⟩ => by
  refine tD_bind (P := OPost F L AL ρ σ H Q) R h (fun x st' h => h) (fun h => h) fun d st1 v H1 R1 E1 rd _ h => ?_
  cases rd with
  | int i => exact ⟨i, rfl, h H1 R1 E1⟩
  | _ => exact h.elim
def cutL (ds : List PyData) (lo hi : Option Int) : List PyData := (ds.drop (HT.sIx ds.length 0 lo)).take (HT.sIx ds.length ds.length hi - HT.sIx ds.length 0 lo)
def cutD (d : PyData) (lo hi : Option Int) : Option PyData := match d with
  | .list ds => some (.list (cutL ds lo hi))
  | .tuple ds => some (.tuple (cutL ds lo hi))
  | .str z => if z.length ≤ sizeLine then some (.str (cutS z lo hi)) else none
  | .dict [(.none, .int 4), (.list ds, .none)] => some (.list (cutL ds lo hi))
  | _ => none
def rSl (G : Gd) : V → Option Int → Option Int → Hp → VK → Prop := fun x lo hi H Q => ∃ L A d w, Rep G L H A d x ∧ cutD d lo hi = some w ∧
  ∀ v H', Same H H' → Rep G L H' (fun b => A b ∨ H b = none) w v → Fresh G L H H' (fun b => A b ∨ H b = none) true w v → Q v H'
theorem Reps.cut {L : List Addr} {H : Hp} {A : Addr → Prop} {ds : List PyData} {vs : List V} (r : Reps G L H A ds vs) (lo hi : Option Int) : Reps G L H A (cutL ds lo hi) (cutV vs lo hi) := by
  unfold cutL cutV
  rw [r.length]
  exact (r.drop _).take _
theorem sl_tupNew : SlR X (fun x lo hi H Q => ∃ a xs, x = .ref a ∧ SqT X.K H a xs ∧ ¬ (HT.sIx xs.length 0 lo = 0 ∧ HT.sIx xs.length xs.length hi = xs.length) ∧ ∀ p o, H p = none → o.dict = none → Q (.ref p) (upd H p (.frz o (.tup (cutV xs lo hi))))) := by
  intro pins s σ H x v vl vu lo hi sl Q I rx hs pl pu h
  obtain ⟨a, xs, rfl, hx, hw, q⟩ := h
  cases rx
  obtain ⟨us, r, ht, hz⟩ := I.tuple hx
  have hl : us.toArray.size = xs.length := by rw [List.size_toArray]; exact r.length.symm
  refine ⟨"tuple", _, PyProof.Rows.slot_tuple_getitem.lookup, ht.typeIs, HT.getItem_tuple_cut ht hs pl pu (by rw [hl]; exact hw) ?_ (by rw [hl]; exact hz)⟩
  rw [hl]
  exact ⟨.ref s.heap.objs.size, _, I.tnew (t' := s.toks) (ys := cutV xs lo hi) ((r.drop _).take _) (Nat.le_trans (cutV_length xs lo hi) hz), rfl, q _ _ (I.hok.fresh (Nat.le_refl _)) rfl⟩
theorem sl_D (hK : G.K = X.K) : SlR X (rSl G) := by
  intro pins s σ H x v vl vu lo hi sl Q I rx hs pl pu h
  obtain ⟨L, A, d, w, r, hw, k⟩ := h
  have lst : ∀ {a : Addr} {vs : List V} {ds : List PyData}, x = .ref a → SqL X.K H a vs → vs.length ≤ sizeLine → Reps G L H A ds vs → w = .list (cutL ds lo hi) → rSlL X.K x lo hi H Q := fun {a vs ds} ex h1 n1 q1 ew => by
    subst ew
    exact ⟨a, vs, ex, h1, fun p hp => k_lst k hp (Nat.le_trans (cutV_length _ _ _) n1) (q1.cut lo hi)⟩
  unfold cutD at hw
  split at hw
  · cases r with
    | lst h1 n1 q1 => exact sl_list pins s σ H _ v vl vu lo hi sl Q I rx hs pl pu (lst rfl h1.sq n1 q1 (Option.some.inj hw).symm)
  · rename_i ds
    cases hw
    cases r with
    | @tup a vs _ h1 n1 q1 =>
      have hx : SqT X.K H a vs := by rw [← hK]; exact h1.sq
      by_cases hwh : HT.sIx vs.length 0 lo = 0 ∧ HT.sIx vs.length vs.length hi = vs.length
      · refine sl_tupA pins s σ H _ v vl vu lo hi sl Q I rx hs pl pu ⟨a, vs, rfl, hx, fun _ => ?_, fun z => absurd hwh z⟩
        have e : cutL ds lo hi = ds := by
          unfold cutL
          rw [q1.length, hwh.1, hwh.2, List.drop_zero, Nat.sub_zero, ← q1.length, List.take_length]
        rw [e] at k
        exact k_old k (.tup h1 n1 q1) fun _ => rfl
      · exact sl_tupNew pins s σ H _ v vl vu lo hi sl Q I rx hs pl pu ⟨a, vs, rfl, hx, hwh, fun p o hp ho => k_tup k hp (Nat.le_trans (cutV_length _ _ _) n1) (q1.cut lo hi) ho⟩
  · rename_i z
    split at hw
    · rename_i hz
      cases hw
      cases r
      exact sl_str pins s σ H _ v vl vu lo hi sl Q I rx hs pl pu ⟨z, rfl, hz, k_str k⟩
    · cases hw
  · cases r with
    | frz h1 n1 q1 => exact sl_list pins s σ H _ v vl vu lo hi sl Q I rx hs pl pu (lst rfl (by rw [← hK]; exact h1.sq) n1 q1 (Option.some.inj hw).symm)
    | dic _ _ _ r => exact r.noNone.elim
  · cases hw
def eSl (f : DE) (lo hi : DO) : DE := fun ρ st => (f ρ st).bind fun d st => (lo ρ st).bind fun l st => (hi ρ st).bind fun h st => .of (cutD d l h) st
theorem tOD_bind {L : List Addr} {AL : Addr → Prop} {ρ : EnvD} {st : Store} {σ : L2.St} {H : Hp} {f : DO} {β : Type} {k : Option Int → Store → ER β} {P : ER β → Prop} {Q1 : Option Int → Hp → Prop} (R : Rel F L AL ρ st σ H) (h : P ((f ρ st).bind k))
    (hx : ∀ x st', P (.exn x st') → ∀ cls dd H', Rel F L AL ρ st' σ H' → Ext L H H' → XRep F x cls dd H' → F.EX cls dd H') (hs : ¬ P .stuck)
    (hk : ∀ b st' H', Rel F L AL ρ st' σ H' → Ext L H H' → P (k b st') → Q1 b H') : tOD F f σ H Q1 := by
  refine ⟨L, AL, ρ, st, R, ?_⟩
  cases e : f ρ st with
  | ok d st' => rw [e] at h; exact fun H' R' E' => hk d st' H' R' E' h
  | exn x st' => rw [e] at h; exact hx x st' h
  | stuck => rw [e] at h; exact hs h
theorem pe_slD {l h : DO} (hK : F.G.K = X.K) {elo ehi : Option Expr} (he : PE X e (tD F M fr f)) (hl : PO X elo (tOD F l)) (hu : PO X ehi (tOD F h)) : PE X (.Subscript e (.Slice elo ehi none p2) pos) (tD F M true (eSl f l h)) :=
  (pe_slice (sl_D hK) he hl hu).imp fun σ H Q ⟨L, AL, ρ, st, R, hh⟩ => by
    refine tD_bind (P := DPost F L AL ρ σ H M true Q) R hh (fun x st' h => h) (fun h => h) fun d st1 v H1 R1 E1 rd _ hh => ?_
    refine tOD_bind (P := DPost F L AL ρ σ H M true Q) R1 hh (fun x st' h cls dd H' R' E' xr => h cls dd H' R' (E1.trans E') xr) (fun h => h) fun b st2 H2 R2 E2 hh => ?_
    refine tOD_bind (P := DPost F L AL ρ σ H M true Q) R2 hh (fun x st' h cls dd H' R' E' xr => h cls dd H' R' ((E1.trans E2).trans E') xr) (fun h => h) fun b2 st3 H3 R3 E3 hh => ?_
    have E4 := (E1.trans E2).trans E3
    have rd3 := (rd.later R1 (E2.trans E3))
    cases q : cutD d b b2 with
    | none => rw [q] at hh; exact hh.elim
    | some w =>
      rw [q] at hh
      have up : ∀ b, (AP (L ++ F.Z) ρ σ M H b ∨ H3 b = none) → AP (L ++ F.Z) ρ σ M H b := fun b k => k.elim id fun z => ⟨R3.notZ z, .inl (E4.free z)⟩
      refine ⟨L, _, d, w, rd3, q, fun v' H' sm rp fre => hh v' H' (R3.same sm) (E4.trans (.of_same sm)) (rp.imp fun b k _ => up b k) fun h1 h2 => ?_⟩
      obtain ⟨a, o, e1, e2, e3, e4⟩ := fre h1 h2
      exact ⟨a, o, e1, E4.free e2, e3, e4.imp fun b k _ => ⟨up b k.1, k.2⟩⟩

/-! ### range as a list, as a tuple -/
def rngL (a b : Int) : List PyData := (List.range (b - a).toNat).map fun i => .int (a + (i : Nat))
@[irreducible] def rgOk (a b : Int) : Bool := decide (a.natAbs ≤ 8388608 ∧ b.natAbs ≤ 8388608)
def listR1 : List PyData → Option PyData
  | [.int b] => if rgOk 0 b = true then some (.list (rngL 0 b)) else none
  | _ => none
def listR2 : List PyData → Option PyData
  | [.int a, .int b] => if rgOk a b = true then some (.list (rngL a b)) else none
  | _ => none
def tupR1 : List PyData → Option PyData
  | [.int b] => if rgOk 0 b = true then some (.tuple (rngL 0 b)) else none
  | _ => none
def tupR2 : List PyData → Option PyData
  | [.int a, .int b] => if rgOk a b = true then some (.tuple (rngL a b)) else none
  | _ => none
theorem rgOk_of {a b : Int} (h : rgOk a b = true) : RgOk a b := by
  unfold rgOk at h
  unfold RgOk
  have h := of_decide_eq_true h
  omega
theorem reps_rg {G : Gd} {L : List Addr} {H : Hp} {A : Addr → Prop} (a : Int) : ∀ is : List Nat, Reps G L H A (is.map fun i => .int (a + (i : Nat))) (is.map fun i => .int (a + (i : Nat)))
  | [] => .nil
  | i :: is => .cons (.int _) (reps_rg a is)
theorem rg_len {a b : Int} (h : rgOk a b = true) : (rgV a b).length ≤ sizeLine := by
  have := (rgOk_of h).2.2.2.2
  rw [rgV_length, sizeLine_eq]
  omega
def tTupRgN (te : L2.St → Hp → (Int → Int → Hp → Prop) → Prop) : TE := fun σ H Q => te σ H fun a b H1 => RgOk a b ∧ ∀ q o, H1 q = none → o.dict = none → Q (.ref q) (upd H1 q (.frz o (.tup (rgV a b))))
theorem pe_tupRgN {te : L2.St → Hp → (Int → Int → Hp → Prop) → Prop} (hc : X.calm = true) (hg : Gl X "tuple") (hm : X.mg "tuple" = none) (he : PRg X e te) (na : starEach [e] X.env = (false, eval e X.env) :: starEach [] X.env := by rfl) : PE X (.Call (.Name "tuple" p) [e] [] pos) (tTupRgN te) := by
  refine ⟨fun pins s σ H Q I h => Call_ (ld_blt I hg hm boot_tuple (PyProof.Rows.callWith_type1 (args_cons (thn (he pins s σ H _ I h) fun x s1 ⟨r, a, b, t, u, v, H1, ex, hr, I1, ok, q⟩ => args_nil ?_) na) na))⟩
  subst ex
  obtain ⟨z1, z2, z3, z4, z5⟩ := ok
  refine call_tuple_range (n := (b - a).toNat) (I1.ok.hd hc) hr (small_one z1 z2 z3 z4) (rangeSize_nat a b) z5 fun h' tk acc hk hi => ?_
  have J : Inv X pins σ H1 { s1 with heap := h', toks := tk } := I1.kept hk
  refine ⟨.ref h'.objs.size, _, J.tnew (t' := tk) (ys := rgV a b) (its := acc.toList) (vals_rg hi) (by rw [rgV_length, sizeLine_eq]; omega), rfl, q _ _ (J.hok.fresh (Nat.le_refl _)) rfl⟩
theorem pe_listR1D {p0 : Pos} (hc : X.calm = true) (hg0 : Gl X "list") (hm0 : X.mg "list" = none) (hg : Gl X "range") (hm : X.mg "range" = none) (ha : PE X a (tD F M fr f)) (na : starEach [a] X.env = (false, eval a X.env) :: starEach [] X.env := by rfl) (nb : starEach [.Call (.Name "range" p) [a] [] pos] X.env = (false, eval (.Call (.Name "range" p) [a] [] pos) X.env) :: starEach [] X.env := by rfl) :
    PE X (.Call (.Name "list" p0) [.Call (.Name "range" p) [a] [] pos] [] p2) (tD F [] true (eArgs listR1 (eCons f eNil))) := (pe_listRg hc hg0 hm0 (prg_1 hg hm ha na) nb).imp fun σ H Q ⟨L, AL, ρ, st, R, h⟩ => by
  have h : DPost F L AL ρ σ H [] true Q (((f ρ st).bind fun d st => .ok [d] st).bind fun ds st => .of (listR1 ds) st) := h
  have h : DPost F L AL ρ σ H [] true Q ((f ρ st).bind fun d st => .of (listR1 [d]) st) := by
    cases q : f ρ st <;> rw [q] at h <;> exact h
  refine tD_bind (P := DPost F L AL ρ σ H [] true Q) R h (fun x st' h => h) (fun h => h) fun d st1 v H1 R1 E1 rd _ h => ?_
  cases rd with
  | int b =>
    have h : DPost F L AL ρ σ H [] true Q (.of (if rgOk 0 b = true then some (.list (rngL 0 b)) else none) st1) := h
    by_cases c : rgOk 0 b = true
    · rw [if_pos c] at h
      refine ⟨b, rfl, rgOk_of c, fun q hq => h _ _ (R1.same (same_upd hq)) (E1.trans (.of_same (same_upd hq))) (.lst ⟨upd_same, R1.notZ hq, .inl (E1.free hq)⟩ (rg_len c) (reps_rg 0 _)) fun _ _ => ⟨q, _, rfl, E1.free hq, upd_same, .lst (rg_len c) (reps_rg 0 _)⟩⟩
    · rw [if_neg c] at h; exact h.elim
  | _ => exact h.elim
theorem pe_tupR1D {p0 : Pos} (hc : X.calm = true) (hg0 : Gl X "tuple") (hm0 : X.mg "tuple" = none) (hg : Gl X "range") (hm : X.mg "range" = none) (ha : PE X a (tD F M fr f)) (na : starEach [a] X.env = (false, eval a X.env) :: starEach [] X.env := by rfl) (nb : starEach [.Call (.Name "range" p) [a] [] pos] X.env = (false, eval (.Call (.Name "range" p) [a] [] pos) X.env) :: starEach [] X.env := by rfl) :
    PE X (.Call (.Name "tuple" p0) [.Call (.Name "range" p) [a] [] pos] [] p2) (tD F [] true (eArgs tupR1 (eCons f eNil))) := (pe_tupRgN hc hg0 hm0 (prg_1 hg hm ha na) nb).imp fun σ H Q ⟨L, AL, ρ, st, R, h⟩ => by
  have h : DPost F L AL ρ σ H [] true Q ((f ρ st).bind fun d st => .of (tupR1 [d]) st) := by
    have h : DPost F L AL ρ σ H [] true Q (((f ρ st).bind fun d st => .ok [d] st).bind fun ds st => .of (tupR1 ds) st) := h
    cases q : f ρ st <;> rw [q] at h <;> exact h
  refine tD_bind (P := DPost F L AL ρ σ H [] true Q) R h (fun x st' h => h) (fun h => h) fun d st1 v H1 R1 E1 rd _ h => ?_
  cases rd with
  | int b =>
    have h : DPost F L AL ρ σ H [] true Q (.of (if rgOk 0 b = true then some (.tuple (rngL 0 b)) else none) st1) := h
    by_cases c : rgOk 0 b = true
    · rw [if_pos c] at h
      exact ⟨b, rfl, rgOk_of c, fun q o hq ho => h _ _ (R1.same (same_upd hq)) (E1.trans (.of_same (same_upd hq))) (.tup (.inl ⟨o, upd_same, ho⟩) (rg_len c) (reps_rg 0 _)) fun _ z => nomatch z⟩
    · rw [if_neg c] at h; exact h.elim
  | _ => exact h.elim

/-! ### globals, attributes, isinstance -/
theorem pe_globD {x : Str} {v : V} {d : PyData} {u : Value} (hg : Gl X x) (hm : X.mg x = some u) (r : RelV v u) (rp : ∀ L H, Rep F.G L H (fun _ => False) d v) (hd : (x == ("__debug__" : Str)) = false := by decide) : PE X (.Name x pos) (tD F [] false (eC d)) := pe_constD (pe_glob hg hm r hd) rp
def fldD (f : Str) : PyData → Option PyData
  | .dict [(.none, .int 1), (.int t, g)] => if f = "teams" then some (.int t) else if f = "games" then some g else none
  | _ => none
/-- what is known of the class League -/
structure LeaOk (K : PySem.W.Frag) (C : Addr) : Prop where
  cls : Cls K C
  ha : PySem.W.findIn K (.ref C) "__class__" = some (some (.builtin "object.__class__"))
  hn : PySem.W.specialIn K (.builtin "object.__class__") "__get__" = some (some (.builtin "getset_descriptor.__get__"))
  ht : PySem.W.takesIn K (.builtin "object.__class__") = some true
  hm : PySem.W.mroIn K C (.type "object") = some true
  nt : NoAttr K C "teams"
  ng : NoAttr K C "games"
  kl : ∀ n : String, n = "int" ∨ n = "bool" ∨ n = "tuple" ∨ n = "str" ∨ n = "list" ∨ n = "dict" → PySem.W.kitOne K (.ref C) (.type n) = some false
  k0 : ∀ t : String, t = "NoneType" ∨ t = "int" ∨ t = "bool" ∨ t = "tuple" ∨ t = "str" ∨ t = "list" ∨ t = "dict" → PySem.W.kitOne K (.type t) (.ref C) = some false
  kt : PySem.W.kitOne K (.ref C) (.ref C) = some true
theorem pe_fldD {x : Str} (hK : F.G.K = X.K) (hL : LeaOk X.K F.G.CL) (he : PE X e (tD F M fr f)) (hb : attributeBase e x X.env (eval e X.env) = eval e X.env := by rfl) : PE X (.Attribute e x pos) (tD F M false (eUn (fldD x) f)) :=
  (pe_fld he hb).imp fun σ H Q ⟨L, AL, ρ, st, R, h⟩ => by
    refine tD_bind (P := DPost F L AL ρ σ H M false Q) R h (fun x st' h => h) (fun h => h) fun d st1 v H1 R1 E1 rd _ h => ?_
    have h : DPost F L AL ρ σ H M false Q (.of (fldD x d) st1) := h
    cases q : fldD x d with
    | none => rw [q] at h; exact h.elim
    | some w =>
      rw [q] at h
      have h : DPost F L AL ρ σ H M false Q (.ok w st1) := h
      unfold fldD at q
      split at q
      · cases rd with
        | lea h1 r1 =>
          split at q
          · rename_i ex
            cases q
            subst ex
            exact ⟨_, _, _, _, _, rfl, h1, hL.cls, hL.nt, rfl, h _ H1 R1 E1 (.int _) fun z => nomatch z⟩
          · split at q
            · rename_i ex
              cases q
              subst ex
              exact ⟨_, _, _, _, _, rfl, h1, hL.cls, hL.ng, rfl, h _ H1 R1 E1 r1 fun z => nomatch z⟩
            · cases q
        | dic _ _ _ r => exact r.noNone.elim
      · cases q
def tyN : PyData → Option String
  | .none => some "NoneType"
  | .bool _ => some "bool"
  | .int _ => some "int"
  | .str _ => some "str"
  | .tuple _ => some "tuple"
  | .list _ => some "list"
  | .dict kvs => match kvs with
    | (.none, .int 1) :: _ => some "League"
    | (.none, _) :: _ => none
    | _ => some "dict"
def isTy (n : String) : Bool := n == "int" || n == "bool" || n == "tuple" || n == "str" || n == "list" || n == "dict"
/-- isinstance(d, n), n a built-in type or League -/
def isaD (n : String) (d : PyData) : Option PyData := (tyN d).map fun t => .bool (t == n || (t == "bool" && n == "int"))
/-- the value's type, as isinstance asks it -/
def tyV1 (C : Addr) (t : String) : Value := if t = "League" then .ref C else .type t
theorem Rep.tyX {G : Gd} {L : List Addr} {H : Hp} {A : Addr → Prop} {d : PyData} {v : V} (hL : LeaOk G.K G.CL) (r : Rep G L H A d v) {t : String} (h : tyN d = some t) : TyX G.K H v (tyV1 G.CL t) := by
  cases r with
  | non => cases h; exact .base .non
  | bl b => cases h; exact .base (.bl b)
  | int b => cases h; exact .base (.int b)
  | str b => cases h; exact .base (.str b)
  | tup h1 n1 q1 =>
    cases h
    rcases h1 with ⟨o, h1, _⟩ | ⟨o, _, _, h1, h2, _⟩
    · exact .fTuple h1
    · exact .kTuple h1 h2
  | lst h1 n1 q1 => cases h; exact .base (.lst h1.1)
  | lea h1 r1 => cases h; exact .base (.ins h1 hL.cls hL.ha hL.hn hL.ht hL.hm)
  | fn n => cases h
  | loc e => cases h
  | raw a => cases h
  | frz h1 _ _ => cases h
  | dic h1 z n r =>
    cases r with
    | nil => cases h; exact .base (.dK h1)
    | @cons k _ _ _ _ _ _ => cases k <;> (cases h; exact .base (.dK h1))
  | dit h1 z n o r => cases h
theorem kit_all {K : PySem.W.Frag} {C : Addr} (hL : LeaOk K C) {d : PyData} {t n : String} (h : tyN d = some t) (hn : n = "League" ∨ n = "int" ∨ n = "bool" ∨ n = "tuple" ∨ n = "str" ∨ n = "list" ∨ n = "dict") :
    PySem.W.kitOne K (tyV1 C t) (tyV1 C n) = some (t == n || (t == "bool" && n == "int")) := by
  have ht : t = "League" ∨ t = "NoneType" ∨ t = "int" ∨ t = "bool" ∨ t = "tuple" ∨ t = "str" ∨ t = "list" ∨ t = "dict" := by
    unfold tyN at h
    split at h <;> try (cases h; simp; done)
    split at h <;> cases h <;> simp
  rcases ht with rfl | rfl | rfl | rfl | rfl | rfl | rfl | rfl <;> rcases hn with rfl | rfl | rfl | rfl | rfl | rfl | rfl <;> first
    | exact hL.kt
    | exact hL.kl _ (by simp)
    | exact hL.k0 _ (by simp)
    | exact kit_ty (by decide +kernel)
theorem pe_isaD {c : Expr} {n : String} {cv : V} (hK : F.G.K = X.K) (hL : LeaOk X.K F.G.CL) (hg : Gl X "isinstance") (hm : X.mg "isinstance" = none) (he : PE X e (tD F M fr f)) (hc : PE X c (tC cv)) (hcv : ClsV cv (tyV1 F.G.CL n)) (hn : n = "League" ∨ n = "int" ∨ n = "bool" ∨ n = "tuple" ∨ n = "str" ∨ n = "list" ∨ n = "dict")
    (h1 : starEach [e, c] X.env = (false, eval e X.env) :: starEach [c] X.env := by rfl) (h2 : starEach [c] X.env = (false, eval c X.env) :: starEach [] X.env := by rfl) (hpl : (backTo pos (starEach [c] X.env)).any (·.1) = false := by rfl) :
    PE X (.Call (.Name "isinstance" p) [e, c] [] pos) (tD F [] false (eUn (isaD n) f)) :=
  (pe_callB call_isi hg hm boot_isinstance (pa_cons he (pa_cons hc pa_nil h2) h1) (by decide) (by decide) h1 hpl).imp fun σ H Q ⟨L, AL, ρ, st, R, h⟩ => by
    refine tD_bind (P := DPost F L AL ρ σ H [] false Q) R h (fun x st' h => h) (fun h => h) fun d st1 v H1 R1 E1 rd _ h => ?_
    have h : DPost F L AL ρ σ H [] false Q (.of (isaD n d) st1) := h
    unfold isaD at h
    cases q : tyN d with
    | none => rw [q] at h; exact h.elim
    | some t =>
      rw [q] at h
      exact ⟨v, cv, _, _, _, rfl, hcv, by rw [← hK]; exact rd.tyX (by rw [hK]; exact hL) q, kit_all hL q hn, h _ H1 R1 E1 (.bl _) fun z => nomatch z⟩
end
end Ev
end

section
set_option maxRecDepth 100000
set_option maxHeartbeats 4000000
namespace Ev
open PySem PySem.Spec PyProof.Rows L2

/-! ### count, index -/
def okFind (ds : List PyData) (x : PyData) : Bool := PyData.plainAll ds && x.plain && decide (min (PyData.depthAll ds) x.depth ≤ 64)
def countL (ds : List PyData) (x : PyData) : Option PyData := if okFind ds x = true then some (.int ((ds.countP fun y => PyData.eqv y x : Nat) : Int)) else none
def indexL (ds : List PyData) (x : PyData) : Option PyData := if okFind ds x = true then (SeqAt.dataPlace ds x).map fun j => .int (j : Nat) else none
/-- a method of lists and tuples -/
def eMth (g : List PyData → PyData → Option PyData) (fa fb : DE) : DE := fun ρ st => (fa ρ st).bind fun c st => (ER.of (seqOf c) st).bind fun ds st => (fb ρ st).bind fun x st => .of (g ds x) st
section
variable {X : Cx} {F : Fx} {G : Gd} {M M1 M2 : List Nat} {fr fr1 fr2 : Bool} {e o : Expr} {f fa fb : DE} {pos apos cpos : Pos}
/-- what a method of lists and tuples does -/
def SeqM (X : Cx) (G : Gd) (id : Kd → String) (g : List PyData → PyData → Option PyData) : Prop := ∀ (k : Kd) (pins : List (Addr × Obj)) (s : Shared) (σ : L2.St) (H : Hp) (L : List Addr) (A1 A2 : Addr → Prop) (a : Addr) (vs : List V) (ds : List PyData) (x : V) (u : Value) (d w : PyData) (Q : VK),
  Inv X pins σ H s → KWalk G L A1 H k a vs ds → vs.length ≤ sizeLine → RelV x u → Rep G L H A2 d x → g ds d = some w → (∀ v, Rep G L H (fun _ => False) w v → Q v H) → wpAny (model X.prog X.w) X.A (call (.builtin (id k)) [.ref a, u]) (EP X pins σ Q) X.xe s
theorem pe_seqM {id : Kd → String} {name : Str} {g : List PyData → PyData → Option PyData} (hK : F.G.K = X.K) (hm : SeqM X F.G id g) (s1 : PySem.Slot "list" name (id .l)) (t1 : typeOf (.builtin (id .l)) = pure (.type "method_descriptor")) (s2 : PySem.Slot "tuple" name (id .t)) (t2 : typeOf (.builtin (id .t)) = pure (.type "method_descriptor"))
    (ho : PE X o (tD F M1 fr1 fa)) (he : PE X e (tD F M2 fr2 fb)) (hbase : attributeBase o name X.env (eval o X.env) = eval o X.env)
    (hfew : ((backTo cpos (starEach [e] X.env)).all (fun x => !x.1) && (backToKw cpos (keywordEach [] X.env)).all (fun x => x.1.isSome) && decide ([e].length + ([] : List Keyword).length + (if ([] : List Keyword).isEmpty then 0 else 1) < 30)) = true)
    (hline : (apos.endLine == cpos.line) = true) (hs : starEach [e] X.env = (false, eval e X.env) :: starEach [] X.env) (hplain : (backTo cpos (starEach [] X.env)).any (·.1) = false) :
    PE X (.Call (.Attribute o name apos) [e] [] cpos) (tD F (M1 ++ M2) false (eMth g fa fb)) := by
  refine ⟨fun pins s σ H Q I ⟨L, AL, ρ, st, R, h⟩ => wpAny_Call_method_late hbase hfew hline rfl (thn (ho.run pins s σ H _ I (tD_bind (P := DPost F L AL ρ σ H (M1 ++ M2) false Q) (Q1 := fun v H1 => ∃ k a vs ds st1, v = .ref a ∧ Rel F L AL ρ st1 σ H1 ∧ Ext L H H1 ∧ (KWalk F.G L (AP (L ++ F.Z) ρ σ M1 H) H1 k a vs ds ∧ vs.length ≤ sizeLine) ∧ (k = .t → TuP F.G.K H1 a vs) ∧ DPost F L AL ρ σ H (M1 ++ M2) false Q ((fb ρ st1).bind fun b st => .of (g ds b) st)) R h (fun x st' h => h) (fun h => h) fun d st1 v H1 R1 E1 rd _ h => ?_)) ?_)⟩
  · have h : DPost F L AL ρ σ H (M1 ++ M2) false Q ((ER.of (seqOf d) st1).bind fun ds st => (fb ρ st).bind fun x st => .of (g ds x) st) := h
    cases q : seqOf d with
    | none => rw [q] at h; exact h.elim
    | some ds =>
      rw [q] at h
      cases rd with
      | tup h1 n1 q1 => cases q; exact ⟨.t, _, _, ds, st1, rfl, R1, E1, ⟨⟨h1.sq, q1⟩, n1⟩, fun _ => h1, h⟩
      | lst h1 n1 q1 => cases q; exact ⟨.l, _, _, ds, st1, rfl, R1, E1, ⟨⟨h1, q1⟩, n1⟩, (fun z => nomatch z), h⟩
      | _ => cases q
  · rintro v s1' ⟨x, H1, I1, rx, k, a, vs, ds, st1, rfl, R1, E1, ⟨kw, hz⟩, htp, h⟩
    cases rx
    have arg : wpAny (model X.prog X.w) X.A (callWith cpos (.builtin (id k)) [.ref a] (backTo cpos (starEach [e] X.env)) []) (EP X pins σ Q) X.xe s1' := by
      have hA := (pa_cons he pa_nil hs).run cpos pins s1' σ H1 (fun xs H2 => ∃ y d w st2, xs = [y] ∧ Rel F L AL ρ st2 σ H2 ∧ Ext L H1 H2 ∧ Rep F.G L H2 (AP (L ++ F.Z) ρ σ M2 H1) d y ∧ g ds d = some w ∧ DPost F L AL ρ σ H (M1 ++ M2) false Q (.ok w st2)) I1 (tD_bind (P := DPost F L AL ρ σ H (M1 ++ M2) false Q) R1 h (fun x st' h cls dd H' R' E' xr => h cls dd H' R' (E1.trans E') xr) (fun h => h) fun d st2 y H2 R2 E2 rd _ h => by
        cases q : g ds d with
        | none => rw [q] at h; exact h.elim
        | some w => rw [q] at h; exact ⟨y, d, w, st2, rfl, R2, E2, rd, q, h⟩)
      rw [hs] at hA ⊢
      refine Calls.callWith_builtin (by show (false || (backTo cpos (starEach [] X.env)).any (·.1)) = false; rw [hplain] <;> rfl) (Calls.evalArgs_plain ?_)
      refine thn hA fun us s2' ⟨xs, H2, I2, r2, y, d, w, st2, ex, R2, E2, rd, hw, hq⟩ => ?_
      subst ex
      obtain ⟨u, rfl, ru⟩ := vals1 r2
      exact hm k pins s2' σ H2 L _ _ a vs ds y u d w Q I2 (kw.kp (E2.kp R1.tr fun b hb => notApp hb.1)) hz ru rd hw fun v rv => hq v H2 R2 (E1.trans E2) (rv.imp fun b z _ => z.elim) fun z => nomatch z
    cases k with
    | l =>
      obtain ⟨its, rv, p, _⟩ := I1.list kw.1.sq
      have p' := p
      obtain ⟨ob, n, ho', hc, hdn, hdt⟩ := p'
      exact ⟨"list", _, PySem.F.plainAttrs_list, s1, t1, p.isList.typeIs, fun b e => by cases e; exact ⟨ob, ho', hdn⟩, arg⟩
    | t =>
      obtain ⟨its, ob, n, rv, ho', hc, hdn, hdt, _⟩ := I1.tupM (by rw [← hK]; exact htp rfl)
      exact ⟨"tuple", _, PySem.F.plainAttrs_tuple, s2, t2, ⟨ob, ho', hc⟩, fun b e => by cases e; exact ⟨ob, ho', hdn⟩, arg⟩
/-- the items read -/
theorem kw_reads {k : Kd} {pins : List (Addr × Obj)} {s : Shared} {σ : L2.St} {H : Hp} {L : List Addr} {A : Addr → Prop} {a : Addr} {vs : List V} {ds : List PyData} (I : Inv X pins σ H s) (hK : G.K = X.K) (kw : KWalk G L A H k a vs ds) (hp : PyData.plainAll ds = true) :
    ∃ (its : List Value) (as : List Addr), Vals vs its ∧ IsK k s.heap a its.toArray ∧ ReadsAll s.heap its.toArray.toList ds as := by
  obtain ⟨its, rv, hi, _⟩ := I.seqK (by rw [← hK]; exact kw.sq)
  obtain ⟨as, ra⟩ := kw.2.reads I hK hp rv
  exact ⟨its, as, rv, hi, ra⟩
theorem okFind_of {ds : List PyData} {x : PyData} (h : okFind ds x = true) : PyData.plainAll ds = true ∧ x.plain = true ∧ min (PyData.depthAll ds) x.depth ≤ 64 := by
  unfold okFind at h
  simp only [Bool.and_eq_true, decide_eq_true_eq] at h
  exact ⟨h.1.1, h.1.2, h.2⟩
def idCount : Kd → String
  | .l => "list.count"
  | .t => "tuple.count"
def idIndex : Kd → String
  | .l => "list.index"
  | .t => "tuple.index"
theorem seqM_count (hK : G.K = X.K) (hu : X.A.units + 66 < cLine) : SeqM X G idCount countL := by
  intro k pins s σ H L A1 A2 a vs ds x u d w Q I kw hz ru rd hw hq
  unfold countL at hw
  split at hw
  · rename_i ok
    cases hw
    obtain ⟨p1, p2, p3⟩ := okFind_of ok
    obtain ⟨its, as, rv, hi, ra⟩ := kw_reads I hK kw p1
    obtain ⟨bs, rx⟩ := rd.reads I hK p2 ru
    have room : X.A.units + 1 + min (PyData.depthAll ds) d.depth < cLine := by omega
    cases k with
    | l => exact SeqAt.count_list_data hi ra rx p1 p2 room ⟨.int _, H, I.tok _, ⟨_, rfl⟩, hq _ (.int _)⟩
    | t => exact SeqAt.count_tuple_data hi ra rx p1 p2 room ⟨.int _, H, I.tok _, ⟨_, rfl⟩, hq _ (.int _)⟩
  · cases hw
theorem seqM_index (hK : G.K = X.K) (hu : X.A.units + 66 < cLine) : SeqM X G idIndex indexL := by
  intro k pins s σ H L A1 A2 a vs ds x u d w Q I kw hz ru rd hw hq
  unfold indexL at hw
  split at hw
  · rename_i ok
    obtain ⟨p1, p2, p3⟩ := okFind_of ok
    cases hj : SeqAt.dataPlace ds d with
    | none => rw [hj] at hw; cases hw
    | some j =>
      rw [hj] at hw
      cases hw
      obtain ⟨its, as, rv, hi, ra⟩ := kw_reads I hK kw p1
      obtain ⟨bs, rx⟩ := rd.reads I hK p2 ru
      have room : X.A.units + 1 + min (PyData.depthAll ds) d.depth < cLine := by omega
      obtain ⟨h1, h2, h3⟩ := SeqAt.hit_at ra p1 hj
      have at_ := SeqAt.items_plain ra rx p1 p2 room
      have hs63 := line63
      have hl := rv.length
      cases k with
      | l =>
        obtain ⟨⟨cls, dd, data, sl⟩, ho, hc, n, hd'⟩ := id hi
        simp only at hc hd'
        subst hc hd'
        exact call_meets PySem.F.slot_list_index ⟨_, ho, rfl⟩ PySem.F.entry_list_index (PySem.F.args_list_index_2 _ _) (SeqAt.list_indexAt a its.toArray n dd sl u _ j h1 (by rw [List.size_toArray] at h1; omega) h2 h3) ⟨ho, at_, ⟨.int _, H, I.tok _, ⟨_, rfl⟩, hq _ (.int _)⟩⟩
      | t =>
        obtain ⟨⟨cls, dd, data, sl⟩, ho, hc, n, hd'⟩ := id hi
        simp only at hc hd'
        subst hc hd'
        exact call_meets PySem.F.slot_tuple_index ⟨_, ho, rfl⟩ PySem.F.entry_tuple_index (PySem.F.args_tuple_index_2 _ _) (TI.tuple_indexAt a its.toArray n dd sl u _ j h1 h2 h3) ⟨ho, at_, ⟨.int _, H, I.tok _, ⟨_, rfl⟩, hq _ (.int _)⟩⟩
  · cases hw
theorem pe_countD (hK : F.G.K = X.K) (hu : X.A.units + 66 < cLine) (ho : PE X o (tD F M1 fr1 fa)) (he : PE X e (tD F M2 fr2 fb)) (hbase : attributeBase o "count" X.env (eval o X.env) = eval o X.env := by rfl)
    (hfew : ((backTo cpos (starEach [e] X.env)).all (fun x => !x.1) && (backToKw cpos (keywordEach [] X.env)).all (fun x => x.1.isSome) && decide ([e].length + ([] : List Keyword).length + (if ([] : List Keyword).isEmpty then 0 else 1) < 30)) = true := by rfl)
    (hline : (apos.endLine == cpos.line) = true := by rfl) (hs : starEach [e] X.env = (false, eval e X.env) :: starEach [] X.env := by rfl) (hplain : (backTo cpos (starEach [] X.env)).any (·.1) = false := by rfl) :
    PE X (.Call (.Attribute o "count" apos) [e] [] cpos) (tD F (M1 ++ M2) false (eMth countL fa fb)) := pe_seqM hK (seqM_count hK hu) PySem.F.slot_list_count PySem.F.type_list_count PySem.F.slot_tuple_count PySem.F.type_tuple_count ho he hbase hfew hline hs hplain
theorem pe_indexD (hK : F.G.K = X.K) (hu : X.A.units + 66 < cLine) (ho : PE X o (tD F M1 fr1 fa)) (he : PE X e (tD F M2 fr2 fb)) (hbase : attributeBase o "index" X.env (eval o X.env) = eval o X.env := by rfl)
    (hfew : ((backTo cpos (starEach [e] X.env)).all (fun x => !x.1) && (backToKw cpos (keywordEach [] X.env)).all (fun x => x.1.isSome) && decide ([e].length + ([] : List Keyword).length + (if ([] : List Keyword).isEmpty then 0 else 1) < 30)) = true := by rfl)
    (hline : (apos.endLine == cpos.line) = true := by rfl) (hs : starEach [e] X.env = (false, eval e X.env) :: starEach [] X.env := by rfl) (hplain : (backTo cpos (starEach [] X.env)).any (·.1) = false := by rfl) :
    PE X (.Call (.Attribute o "index" apos) [e] [] cpos) (tD F (M1 ++ M2) false (eMth indexL fa fb)) := pe_seqM hK (seqM_index hK hu) PySem.F.slot_list_index PySem.F.type_list_index PySem.F.slot_tuple_index PySem.F.type_tuple_index ho he hbase hfew hline hs hplain

/-! ### sorted -/
def allAlike (ds : List PyData) : Bool := ds.all fun d => ds.all fun e => W.alike d e
def sortable (ds : List PyData) : Bool := (ds.all fun d => match d with | .tuple (_ :: _) => true | _ => false) || ds.all fun d => match d with | .none => false | .tuple _ => false | _ => true
def okSort (ds : List PyData) : Bool := allAlike ds && sortable ds && PyData.plainAll ds && decide (PyData.depthAll ds ≤ 64)
def sortL (ds : List PyData) : List PyData := ds.mergeSort (W.dataLe false id)
def sortedD : List PyData → Option PyData
  | [.list ds] => if okSort ds = true then some (.list (sortL ds)) else none
  | _ => none
theorem okSort_of {ds : List PyData} (h : okSort ds = true) : W.AllAlike ds ∧ W.Sortable ds ∧ PyData.plainAll ds = true ∧ PyData.depthAll ds ≤ 64 := by
  unfold okSort at h
  simp only [Bool.and_eq_true, decide_eq_true_eq] at h
  obtain ⟨⟨⟨h1, h2⟩, h3⟩, h4⟩ := h
  refine ⟨fun d hd e he => ?_, ?_, h3, h4⟩
  · exact List.all_eq_true.mp (List.all_eq_true.mp h1 d hd) e he
  · unfold sortable at h2
    rw [Bool.or_eq_true] at h2
    rcases h2 with h2 | h2
    · refine .inl fun d hd => ?_
      have := List.all_eq_true.mp h2 d hd
      split at this
      · exact ⟨_, _, rfl⟩
      · cases this
    · refine .inr fun d hd => ?_
      have := List.all_eq_true.mp h2 d hd
      split at this
      · cases this
      · cases this
      · exact ⟨by assumption, by assumption⟩
theorem depth_mem : ∀ {ds : List PyData} {d : PyData}, d ∈ ds → d.depth ≤ PyData.depthAll ds
  | e :: es, d, h => by
    simp only [PyData.depthAll]
    rcases List.mem_cons.mp h with rfl | h
    · omega
    · have := depth_mem h
      omega
theorem each_rep {L : List Addr} {H : Hp} {A : Addr → Prop} : ∀ {ds : List PyData} {vs : List V} {us : List Value}, Reps G L H A ds vs → Vals vs us → W.EachIs (fun u d => ∃ x, RelV x u ∧ Rep G L H A d x) us ds
  | _, _, _, .nil, .nil => .nil
  | _, _, _, .cons r rs, .cons q qs => .cons ⟨_, q, r⟩ (each_rep rs qs)
theorem each_back {L : List Addr} {H : Hp} {A : Addr → Prop} : ∀ {ds : List PyData} {us : List Value}, W.EachIs (fun u d => ∃ x, RelV x u ∧ Rep G L H A d x) us ds → ∃ vs, Vals vs us ∧ Reps G L H A ds vs
  | _, _, .nil => ⟨[], .nil, .nil⟩
  | _, _, .cons ⟨x, q, r⟩ t => by
    obtain ⟨vs, h1, h2⟩ := each_back t
    exact ⟨x :: vs, .cons q h1, .cons r h2⟩
theorem each_reads {ds : List PyData} {us : List Value} {h : Heap} {P : Value → PyData → Prop} (e : W.EachIs P us ds) (k : ∀ u d, d ∈ ds → P u d → ∃ as, Reads h u d as) : W.EachIs (fun u d => ∃ as, Reads h u (id d) as) us ds := (W.each_mem e).mono fun u d ⟨p, hd⟩ => k u d hd p
theorem plain_mem : ∀ {ds : List PyData} {d : PyData}, PyData.plainAll ds = true → d ∈ ds → d.plain = true
  | e :: es, d, hp, h => by
    simp only [PyData.plainAll, Bool.and_eq_true] at hp
    rcases List.mem_cons.mp h with rfl | h
    · exact hp.1
    · exact plain_mem hp.2 h
theorem call_sortedD (hK : G.K = X.K) (hu : X.A.units + 67 < cLine) : CallR X (.builtin "sorted") (rV G true sortedD) := by
  intro pins s σ H xs us Q I rx h
  obtain ⟨L, A, ds0, w, rs, hw, k⟩ := rv_ex h
  unfold sortedD at hw
  split at hw
  · rename_i ds
    split at hw
    · rename_i ok
      cases hw
      obtain ⟨x, rfl, r⟩ := reps1 rs
      obtain ⟨u, rfl, ru⟩ := vals1 rx
      obtain ⟨o1, o2, o3, o4⟩ := okSort_of ok
      cases r with
      | @lst a vs _ h1 n1 q1 =>
        cases ru
        obtain ⟨its, rv, pl, hz⟩ := I.list h1.sq
        have e := each_rep q1 rv
        have hl := q1.length
        refine W.sorted_data (enc := id) (bs := ds) pl.isList e (each_reads e fun u d hd ⟨x, q, r⟩ => r.reads I hK (plain_mem o3 hd) q) (by simpa using o1) (by simpa using o2) (by omega) (fun d hd => by have := depth_mem hd; show X.A.units + 2 + d.depth < cLine; omega) fun out ho eo => ?_
        obtain ⟨ws, rw', rs'⟩ := each_back eo
        obtain ⟨c, hc⟩ := PyProof.Rows.sortedAll_at s.heap its out.toArray
        have hwl : ws.length ≤ sizeLine := by
          have := rw'.length
          omega
        have hp : H (s.heap.objs.size + 1) = none := I.hok.fresh (Nat.le_succ _)
        exact ⟨.ref _, _, I.laid (t' := s.toks) (o := .lst ws) (fun _ _ => PyProof.Rows.sortedAll_old) (Nat.le_succ _) ⟨hwl, out, c, rw', hc⟩, rfl, k_lst k hp hwl rs'⟩
    · cases hw
  · cases hw
end
end Ev
end

section
set_option maxRecDepth 100000
set_option maxHeartbeats 4000000
namespace Ev
open PySem PySem.Spec PyProof.Rows L2

/-! ### a League is made -/
def isTE : HO → Bool
  | .tbl _ => true
  | .ext _ => true
  | _ => false
theorem Tabs_te {T : List (Addr × Str)} {H H' : Hp} (t : LamX.Tabs T H) (e : ∀ b o, H b = some o → isTE o = true → H' b = some o) : LamX.Tabs T H' := fun p hp => by
  obtain ⟨ps, h1, h2, h3⟩ := t p hp
  refine ⟨ps, e _ _ h1 rfl, h2, fun pos cv hc => ?_⟩
  obtain ⟨c, e1, e2⟩ := h3 pos cv hc
  exact ⟨c, e1, e _ _ e2 rfl⟩
theorem tseq_seq {F : Fx} {g k : DS} {u : TS} {D : Ends} {σ : L2.St} {H : Hp} (h : tSeq (tS F (sSeq g k)) u D σ H) : tSeq (tS F g) (tSeq (tS F k) u) D σ H := by
  obtain ⟨L, AL, ρ, st, R, h⟩ := h
  refine ⟨L, AL, ρ, st, R, ?_⟩
  unfold sSeq at h
  cases q : g ρ st with
  | nx ρ1 st1 =>
    rw [q] at h
    exact fun σ' H' R' fm => ⟨L, AL, ρ1, st1, R', h.later fm⟩
  | brk ρ1 st1 => rw [q] at h; exact h
  | ct ρ1 st1 => rw [q] at h; exact h
  | ret d f st1 => rw [q] at h; exact h
  | exn x st1 => rw [q] at h; exact h
  | stuck => rw [q] at h; exact h
/-- what __init__ leaves: x is the new one's address, bm the tests -/
def mI (n : Nat) (bm : DS) (x : Nat) : DF := fun ds st => match ds with
  | [t, g] => match bm (some (rawv x, false) :: some (t, false) :: some (g, false) :: List.replicate n none) st with
    | .nx ρ' st' => match (ρ'[0]? : Option Slot), (ρ'[1]? : Option Slot), (ρ'[2]? : Option Slot) with
      | some (some (.dict [(.none, .int 5), (.int y, .none)], false)), some (some (.int t, false)), some (some (g, false)) => if y = (x : Int) then .ok (lea t g) st' else .stuck
      | _, _, _ => .stuck
    | .exn e st' => .exn e st'
    | _ => .stuck
  | _ => .stuck
def IPst (G : Gd) (xc : Nat → Addr) (T : List (Addr × Str)) (Z L : List Addr) (AL : Addr → Prop) (H : Hp) (x dx : Addr) (Q : VK) (E : XK) : ER PyData → Prop
  | .ok d st => ∀ t g vg H', d = lea t g → Gnd G T Z L AL st H' → (∀ b o, H b = some o → b ∉ L → b ≠ x → isTbl o = false → H' b = some o) → (∀ b, H b ≠ none → H' b ≠ none) → H' x = some (.ins G.CL dx [("teams", .int t), ("games", vg)]) → Rep G L H' (fun b => b ∉ L ++ Z) g vg → Q .non H'
  | .exn e st => ∀ cls dd H' (F : Fx), F.xc = xc → F.G = G → Gnd G T Z L AL st H' → Ext L H H' → XRep F e cls dd H' → E cls dd H'
  | .stuck => False
def spI (G : Gd) (xc : Nat → Addr) (T : List (Addr × Str)) (mk : DF) : Sp := fun vs H Q E => ∃ x dx vt vg, vs = [.ref x, vt, vg] ∧ ∃ L AL Z dt dg st, Gnd G T Z L AL st H ∧ H x = some (.ins G.CL dx []) ∧ x ∉ L ∧ Reps G L H (fun b => b ∉ L ++ Z) [dt, dg] [vt, vg] ∧ IPst G xc T Z L AL H x dx Q E (mk [dt, dg] st)
section
variable {P : Program} {w : World} {K : PySem.W.Frag} {mg : Str → Option Value} {base : Heap} {x qual : Str} {params : Arguments} {body : List Stmt} {scope : Scope} {dvs : List V} {kws : List (Str × V)} {f : Addr} {fd : FuncData}
theorem okInit {G : Gd} {xc : Nat → Addr} {T : List (Addr × Str)} {N ps : List Str} {k n : Nat} {bm : DS} {mk : DF} (F : FunD K x qual params body scope dvs kws f fd) (S : FnScope N ps scope) (hps : ps.length = 3) (hle : N.length = n + 3) (hL : LeaOk K G.CL)
    (hmk : ∀ (a : Nat) t g st, mk [t, g] st ≠ .stuck → mI n bm a [t, g] st = mk [t, g] st)
    (hb : ∀ (cdv : Value) (A : Around) (outer : List Env) (s : Shared) (H : Hp) (E : XK) (L Z : List Addr), Room k (A.deeper (envOfC qual scope s.heap.objs.size f cdv)) →
      PSs (cxOf (L2.CX P w) P w K mg base N qual scope f cdv A outer s H E) body (tSeq (tS ⟨G, xc, H, L, T, E, Z, N.length⟩ bm) (tSeq (sFld K (tVar 0) (tVar 1) "teams") (sFld K (tVar 0) (tVar 2) "games")))) :
    FnOk P w K mg base (L2.CX P w) (k + 1) f fd ps (spI G xc T mk) := by
  refine F.ok S (fun vs H Q E ⟨_, _, _, _, e, _⟩ => by rw [e, hps]; rfl) fun cdv A outer s H vs Q E hr ⟨a, dx, vt, vg, e, L, AL, Z, dt, dg, st, g, hx, hxL, r, h⟩ => ?_
  subst e
  have r' : Reps G L H (fun b => b ∉ L ++ Z) [rawv a, dt, dg] [.ref a, vt, vg] := .cons (.raw a) r
  refine ⟨_, hb cdv A outer s H E L Z hr, L, AL, _, st, rel0 g r' (by show 3 ≤ _; omega), ?_⟩
  have hs : mk [dt, dg] st ≠ .stuck := fun z => by rw [z] at h; exact h
  rw [← hmk a dt dg st hs] at h
  have e3 : N.length - [V.ref a, vt, vg].length = n := by show N.length - 3 = n; omega
  rw [e3]
  unfold mI at h
  show SPost _ L AL _ _ H _ (bm (some (rawv a, false) :: some (dt, false) :: some (dg, false) :: List.replicate n none) st)
  simp only at h
  generalize bm (some (rawv a, false) :: some (dt, false) :: some (dg, false) :: List.replicate n none) st = r0 at h
  cases r0 with
  | brk ρ' st' => exact h.elim
  | ct ρ' st' => exact h.elim
  | stuck => exact h.elim
  | ret d f st' => exact h.elim
  | exn x st' => exact fun ρ' σ' cls dd H' R' xr => h cls dd H' _ rfl rfl R'.gnd R'.ext xr
  | nx ρ' st' =>
    intro σ' H' R' fm
    simp only at h
    split at h
    · rename_i y t gg q0 q1 q2
      split at h
      · rename_i hy
        obtain ⟨v0, s0, p0⟩ := R'.val 0 _ q0
        obtain ⟨v1, s1, p1⟩ := R'.val 1 _ q1
        obtain ⟨v2, s2, p2⟩ := R'.val 2 _ q2
        have hx' : H' a = some (.ins G.CL dx []) := R'.ext.keep a _ hx hxL rfl
        have e0 : v0 = .ref a := by
          subst hy
          cases p0 with
          | raw z => rfl
          | dic _ _ _ r => exact r.noNone.elim
        cases p1
        subst e0
        have ne : ∀ b, b ∈ L → b ≠ a := fun b hb z => hxL (by rw [← z]; exact hb)
        refine ⟨_, s1, _, s0, a, G.CL, dx, [], rfl, hx', hL.cls, hL.nt, by decide, ?_⟩
        refine ⟨v2, s2, _, s0, a, G.CL, dx, _, rfl, upd_same, hL.cls, hL.ng, (by show 1 < 1000; omega), ?_⟩
        have up : ∀ b, b ≠ a → ∀ o1 o2, upd (upd H' a o1) a o2 b = H' b := fun b hb o1 o2 => by rw [upd_ne hb, upd_ne hb]
        have kp : ∀ {A : Addr → Prop} o1 o2, Kp A H' (upd (upd H' a o1) a o2) := fun o1 o2 b o hb _ sk => by
          rw [up b _ o1 o2]
          · exact hb
          · intro z
            rw [z, hx'] at hb
            cases hb
            cases sk
        refine h t gg v2 _ rfl ⟨R'.lnd, R'.ll, fun i b ds h1 h2 => ?_, fun b hb => (R'.al b hb).1, fun b hb => ?_, Tabs_te R'.tab fun b o hb ht => ?_, fun b hb => ?_⟩ (fun b o hb hn hba ht => ?_) (fun b hb => ?_) upd_same ((p2.imp fun b k _ => k.1).keep (kp _ _))
        · obtain ⟨ws, z1, z2, z3⟩ := R'.cell i b ds h1 h2
          exact ⟨ws, by rw [up b (ne b (List.mem_of_getElem? h1))]; exact z1, z2, z3.keep (kp _ _)⟩
        · by_cases z : b = a
          · subst z; rw [upd_same]; exact fun z => nomatch z
          · rw [up b z]; exact R'.ald b hb
        · rw [up b]
          · exact hb
          · intro z
            rw [z, hx'] at hb
            cases hb
            cases ht
        · by_cases z : b = a
          · subst z; rw [upd_same]; exact fun z => nomatch z
          · rw [up b z]; exact R'.zt b hb
        · rw [up b hba]
          exact R'.ext.keep b o hb hn ht
        · by_cases z : b = a
          · subst z; rw [upd_same]; exact fun z => nomatch z
          · rw [up b z]; exact R'.ext.dom b hb
      · exact h.elim
    · exact h.elim
end
section
variable {X : Cx} {F : Fx} {M : List Nat} {e : Expr} {es : List Expr} {fs : DEs} {pos p : Pos} {mk : DF} {k : Nat} {f : Addr} {fd : FuncData} {ps : List Str} {x : Str} {G : Gd} {xc : Nat → Addr} {T : List (Addr × Str)}
def eMake (mk : DF) (fs : DEs) : DE := fun ρ st => (fs ρ st).bind fun ds st => match ds with
  | [t, g] => mk [t, g] st
  | _ => .stuck
theorem pe_makeD (Fn : FnOk X.prog X.w X.K X.mg X.base (L2.CX X.prog X.w) k f fd ps (spI G xc T mk)) (Mm : Mk X.K G.CL f) (hr : Room (k + 1) X.A) (hg : Gl X x) (hm : X.mg x = some (.ref G.CL)) (hb : Binds X.K fd ps []) (hx : Passes (L2.CX X.prog X.w) X F.EX)
    (h1 : F.G = G) (h2 : F.xc = xc) (h3 : F.T = T) (hlea : ∀ ds st d st', mk ds st = .ok d st' → ∃ t g, d = lea t g)
    (ha : PA X (e :: es) (tDs F M fs)) (hdb : (x == ("__debug__" : Str)) = false := by decide) (he : starEach (e :: es) X.env = (false, eval e X.env) :: starEach es X.env := by rfl) (hpl : (backTo pos (starEach es X.env)).any (·.1) = false := by rfl) :
    PE X (.Call (.Name x p) (e :: es) [] pos) (tD F (List.range F.n) false (eMake mk fs)) := (pe_make Mm Fn hr hg hm hb .nil hx ha hdb he hpl).imp fun σ H Q ⟨L, AL, ρ, st, R, h⟩ => by
  subst h1 h2 h3
  refine tDs_bind (P := DPost F L AL ρ σ H (List.range F.n) false Q) R h (fun x st' h => h) (fun h => h) fun ds st1 vs H1 R1 E1 rs h => ?_
  intro a dx na nd hne
  split at h
  · rename_i dt dg
    have s12 : Same H1 (upd (upd H1 dx (.own a)) a (.ins F.G.CL dx [])) := fun b o hb => by
      rw [upd_ne (ne_of_none hb na), upd_ne (ne_of_none hb nd)]
      exact hb
    have R2 := R1.same s12
    have up : ∀ b, b ∉ L ++ F.Z → AP (L ++ F.Z) ρ σ (List.range F.n) H b := fun b k => ⟨k, .inr fun i ⟨⟨d, hi⟩, _⟩ => by
      have := (List.getElem?_eq_some_iff.mp hi).1
      rw [List.mem_range, ← R.nn]
      exact this⟩
    cases rs with
    | @cons _ vt _ _ r1 rs =>
      cases rs with
      | @cons _ vg _ _ r2 rs =>
        cases rs
        refine ⟨a, dx, vt, vg, rfl, L, AL, F.Z, dt, dg, st1, R2.gnd, upd_same, R1.notL na, ?_, ?_⟩
        · exact (Reps.imp (fun b k _ => k.1) (.cons r1 (.cons r2 .nil))).keep fun b o hb _ _ => s12 b o hb
        · cases q : mk [dt, dg] st1 with
          | stuck => rw [q] at h; exact h
          | ok d st2 =>
            rw [q] at h
            obtain ⟨t0, g0, rfl⟩ := hlea _ _ _ _ q
            intro t g vg' H3 ed g3 k3 dm hx3 rp
            cases ed
            have E3 : Ext L H1 H3 := ⟨fun b o hb hn ht => k3 b o (s12 b o hb) hn (ne_of_none hb na) ht, fun b hb => dm b (by
              cases z : H1 b with
              | none => exact absurd z hb
              | some o => rw [s12 b o z]; exact fun z => nomatch z)⟩
            exact ⟨rfl, h (.ref a) H3 (R1.step E3 g3.ll g3.cell g3.tab) (E1.trans E3) (.lea hx3 (rp.imp fun b k _ => up b k)) fun z => nomatch z⟩
          | exn x st2 =>
            rw [q] at h
            intro cls dd H3 F' x1 x2 g3 E3 xr
            have E3' : Ext L H1 H3 := Ext.trans (.of_same s12) E3
            obtain ⟨r1, r2⟩ := xr
            exact h cls dd H3 (R1.step E3' g3.ll g3.cell g3.tab) (E1.trans E3') ⟨by rw [← x1]; exact r1, by rw [← x2]; exact r2⟩
  · exact h.elim
end
end Ev
namespace Ev
open PySem PySem.Spec PyProof.Rows L2
theorem tseq_seq2 {F : Fx} {g k l : DS} {u : TS} {D : Ends} {σ : L2.St} {H : Hp} (h : tSeq (tS F (sSeq g (sSeq k l))) u D σ H) : tSeq (tS F g) (tSeq (tS F k) (tSeq (tS F l) u)) D σ H := by
  obtain ⟨L, AL, ρ, st, R, h⟩ := tseq_seq h
  refine ⟨L, AL, ρ, st, R, ?_⟩
  cases q : g ρ st with
  | nx ρ1 st1 =>
    rw [q] at h
    exact fun σ' H' R' fm => tseq_seq (h σ' H' R' fm)
  | brk ρ1 st1 => rw [q] at h; exact h
  | ct ρ1 st1 => rw [q] at h; exact h
  | ret d f st1 => rw [q] at h; exact h
  | exn x st1 => rw [q] at h; exact h
  | stuck => rw [q] at h; exact h
end Ev
end

section
set_option maxRecDepth 100000
set_option maxHeartbeats 4000000
namespace Ev
open PySem PySem.Spec PyProof.Rows L2

/-! ### a lambda handed to a def -/
section
variable {X : Cx} {pins : List (Addr × Obj)} {σ : L2.St} {H : Hp} {s : Shared}
/-- as LamX.lam_make2; what stood in the heap stands on -/
theorem lam_new {T : List (Addr × Str)} {c P : Addr} {ar : Arguments} {bd : Expr} {sc : Scope} {lp : Pos} {E : Value → Shared → Prop} {Q : Value → Shared → Prop} (I : Inv X pins σ H s) (TB : LamX.TabB X.base X.mg c P) (hcd : X.env.code = .ref c)
    (hPT : (P, X.env.qual ++ "<lambda>") ∈ T) (hun : ∀ p ∈ T, p.1 = P → p.2 = X.env.qual ++ "<lambda>") (tb : LamX.Tabs T H) (hdf : defaultsOf ar X.env = ([], [])) (hcap : ∀ y ∈ sc.names, y.2 = .free → ∃ z, X.env.cells.lookup y.1 = some z)
    (k : ∀ (f z : Addr) (pm ct : Value) (H1 : Hp) (s1 : Shared), Inv X pins σ H1 s1 → LamX.ExtN H H1 → (∀ b, H b ≠ none → H1 b ≠ none) → LamX.Tabs T H1 →
      s1.heap.get? f = some (PySem.W.kla_obj "<lambda>" (X.env.qual ++ "<lambda>") ar bd sc (cloFrom X.env.cells sc.names []) pm z ct) → H1 f = none → f ∉ frs X.stack → H1 z = some (LamX.CodeO z (X.env.qual ++ "<lambda>")) → Q (.ref f) s1) :
    wpAny (model X.prog X.w) X.A (eval (.Lambda ar bd sc lp) X.env) Q E s := by
  obtain ⟨tp, tp1, tp2, tp3⟩ := tb _ hPT
  have atB : s.heap.BuiltinsAt X.mg P := TB.bm.keeps I.bk
  have objP : s.heap.get? P = some { cls := .none, data := .fields tp } := I.hok P _ tp1
  have young : ∀ f, s.heap.objs.size ≤ f → f ∉ frs X.stack := fun f hf z =>
    (List.mem_cons.mp (I.stkSub _ z)).elim (fun e => absurd (Nat.lt_of_lt_of_le I.lt (by rw [← e]; exact hf)) (Nat.lt_irrefl _)) fun e => I.nofs hf e
  refine PySem.W.kla_eval hdf ?_
  cases found : codeAmong lp tp.toList with
  | some cv =>
    obtain ⟨z, rfl, zO⟩ := tp3 lp cv found
    refine PySem.W.kla_makeFunctionHit (mg := X.mg) (c := c) (P := P) (ps := tp) (closure_ok hcap) I.ok.glob (I.mod.glob.keeps I.bk) hcd (TB.code.keeps I.bk) objP tp2 found atB fun ct hq tk keeps le => ?_
    exact k hq.objs.size z ((X.mg "__name__").getD .none) ct H _ (I.kept (t' := tk) fun b o e => Heap.get?_push_of_some _ (keeps b o e)) (LamX.ExtN.refl H) (fun _ q => q) tb (Heap.get?_push_size _ rfl) (I.hok.fresh le) (young _ le) zO
  | none =>
    refine PySem.W.kla_makeFunction (mg := X.mg) (c := c) (P := P) (ps := tp) (closure_ok hcap) I.ok.glob (I.mod.glob.keeps I.bk) hcd (TB.code.keeps I.bk) objP tp2 found TB.gP atB fun z ct hq tk keeps zge zlt zrec zP => ?_
    obtain ⟨z', oz, vz, tz, ez, gz, dz, nz⟩ := zrec
    cases ez
    have grown : s.heap.objs.size ≤ hq.objs.size := Nat.le_trans zge (Nat.le_of_lt zlt)
    have zNew : H z = none := I.hok.fresh zge
    have J := LamX.inv_table (t' := tk) (more := #[rawInt lp.line, rawInt lp.col, .ref z]) (h' := hq.push (PySem.W.kla_obj "<lambda>" (X.env.qual ++ "<lambda>") ar bd sc (cloFrom X.env.cells sc.names []) ((X.mg "__name__").getD .none) z ct)) I tp1
      (fun b o nb e => Heap.get?_push_of_some _ (keeps b o nb e)) (Heap.get?_push_of_some _ zP) zge ⟨oz, vz, tz, Heap.get?_push_of_some _ gz, dz, nz⟩
    have en : LamX.ExtN H (upd (upd H P (.tbl (tp ++ #[rawInt lp.line, rawInt lp.col, .ref z]))) z (LamX.CodeO z (X.env.qual ++ "<lambda>"))) := fun b o e n => by
      have h1 : b ≠ z := ne_of_none e zNew
      have h2 : b ≠ P := fun w => n tp (Option.some.inj (e.symm.trans (by rw [w]; exact tp1)))
      rw [upd_ne h1, upd_ne h2, e]
    have rows : (tp ++ #[rawInt lp.line, rawInt lp.col, .ref z]).toList = tp.toList ++ [rawInt lp.line, rawInt lp.col, .ref z] := by simp
    refine k hq.objs.size z ((X.mg "__name__").getD .none) ct _ _ J en (fun b hb => ?_) (fun p hp => ?_) (Heap.get?_push_size _ rfl) ?_ (young _ grown) upd_same
    · by_cases h1 : b = z
      · rw [h1, upd_same]; exact fun q => nomatch q
      · rw [upd_ne h1]
        by_cases h2 : b = P
        · rw [h2, upd_same]; exact fun q => nomatch q
        · rw [upd_ne h2]; exact hb
    · by_cases hpP : p.1 = P
      · rw [hun p hp hpP, hpP]
        refine ⟨_, by rw [upd_ne (ne_of_none tp1 zNew), upd_same], by rw [rows]; exact PySem.TriplesOk_snoc _ _ _ _ tp2, fun q cv hcv => ?_⟩
        rw [rows] at hcv
        rcases LamX.among_app _ tp2 hcv with w | w
        · obtain ⟨c0, e1, e2⟩ := tp3 q cv w
          exact ⟨c0, e1, en _ _ e2 LamX.codeO_ne⟩
        · exact ⟨z, w, upd_same⟩
      · obtain ⟨tq, a1, a2, a3⟩ := tb p hp
        refine ⟨tq, by rw [upd_ne (ne_of_none a1 zNew), upd_ne hpP]; exact a1, a2, fun q cv hcv => ?_⟩
        obtain ⟨c0, e1, e2⟩ := a3 q cv hcv
        exact ⟨c0, e1, en _ _ e2 LamX.codeO_ne⟩
    · have d1 : hq.objs.size ≠ z := Nat.ne_of_gt zlt
      have d2 : hq.objs.size ≠ P := Nat.ne_of_gt (Nat.lt_of_lt_of_le (Heap.lt_size objP) grown)
      rw [upd_ne d1, upd_ne d2]
      exact I.hok.fresh grown
/-- the reading of x(lambda: ..) -/
def tLamX (T : List (Addr × Str)) (TT : (XK → Hp → VK → Prop) → Hp → VK → Prop) (t : XK → TE) : TE := fun σ H Q => LamX.Tabs T H ∧ ∀ H1, LamX.ExtN H H1 → (∀ b, H b ≠ none → H1 b ≠ none) → LamX.Tabs T H1 → TT (fun E H' Q' => t E σ H' Q') H1 Q
end
section
variable {X : Cx}
theorem pe_lamX {T : List (Addr × Str)} {TT : (XK → Hp → VK → Prop) → Hp → VK → Prop} {x a : Str} {g c P : Addr} {k : Nat} {pg : Arguments} {bg : List Stmt} {sg : Scope} {dV kV doc pm cdv ct oc : Value} {an od : Option Addr} {osl : Array (Option Value)} {Ng : List Str}
    {ar : Arguments} {bd : Expr} {sc : Scope} {t : XK → TE} {p lp pos : Pos} (hg : Gl X x) (hm : X.mg x = some (.ref g)) (hk : PySem.W.keepIn X.K (.ref g) = true)
    (lk : X.K.lookup g = some ⟨oc, od, .func (PySem.W.fnOf x x pg bg sg dV kV doc pm an cdv ct), osl⟩) (hcg : PySem.W.codeIn X.K cdv x = true) (hb : L2.Binds X.K (PySem.W.fnOf x x pg bg sg dV kV doc pm an cdv ct) [a] []) (Sg : FnScope Ng [a] sg) (hN0 : Ng[0]? = some a) (hva : Vis sg a)
    (hG : LamX.GivesTo X Ng x sg g cdv bg a (X.env.qual ++ "<lambda>") TT)
    (TB : LamX.TabB X.base X.mg c P) (hcd : X.env.code = .ref c) (hPT : (P, X.env.qual ++ "<lambda>") ∈ T) (hun : ∀ p ∈ T, p.1 = P → p.2 = X.env.qual ++ "<lambda>") (hr : Room (k + 2) X.A) (Ls : LamX.LamS X.env.scope sc) (hdf : defaultsOf ar X.env = ([], []))
    (hbd : ∀ (q : Str) (cl : List (Str × Addr)) (pm cv ctv : Value), bindArgs (PySem.W.kla_fn "<lambda>" q ar bd sc cl pm cv ctv) ⟨[], []⟩ = pure [])
    (walk : ∀ (A : Around) (outer : List Env) (s : Shared) (H : Hp) (E : XK) (f z : Addr), Room k (A.deeper (LamX.lamEnv X sc s.heap.objs.size f z)) → PE (LamX.lamCx X A outer s H E sc f z) bd (t E))
    (d1 : (x == ("__debug__" : Str)) = false := by decide) (d2 : (a == ("__debug__" : Str)) = false := by decide) (d3 : (a == ("__classdict__" : Str)) = false := by decide) :
    PE X (.Call (.Name x p) [.Lambda ar bd sc lp] [] pos) (tLamX T TT t) := by
  refine ⟨fun pins s σ H Q I ⟨hT, h⟩ => wpAny_Call_Name_kw (ld_glob I hg hm (PySem.W.callWith_K (h₀ := X.base) I.ok.mod.kin hk ?_ (by rfl) (by rfl)) d1)⟩
  show wpAny _ _ (spliced ((false, eval (.Lambda ar bd sc lp) X.env) :: backTo pos (starEach [] X.env))) _ _ s
  refine Calls.spliced_cons (lam_new I TB hcd hPT hun hT hdf (Ls.has I.ok) fun f z pm' ctz H1 s1 I1 eN dm T1 objf nf ff zO => Calls.spliced_nil ⟨I1.kIn, ?_⟩)
  have run : codeAny (model X.prog X.w) X.A (.call (.ref g) ⟨[.ref f], []⟩) (CR C8.CX0 X.stack X.prog X.w H1 s1 Q C8.E0) s1 :=
    LamX.run_ofS (N := Ng) (ps := [a]) (us := [.ref f]) (vs := [.ref f]) lk hcg Sg hr I1.env0 (hb s1 [.ref f] I1.kIn rfl) (.cons rfl .nil) rfl fun hrz => by
      obtain ⟨tz, w1, w2⟩ := hG f z s1 H1 Q (fun E H' Q' => t E σ H' Q') (fun W pn xe E p1 p2 tk hW => LamX.pe_act (i := 0) I1 Ls objf nf ff (hbd _ _ _ _ _) tk hW hrz (fun A outer s H hr2 => walk A outer s H E f z hr2) hN0 hva d2 d3) zO (h H1 eN dm T1)
      exact ⟨tz, w1.nox, w2⟩
  refine wpAny_call (codeAny_mono run fun r s2 hq => ?_)
  cases r with
  | error e => exact (show False from hq).elim
  | ok fl =>
    cases fl with
    | ret u => exact I1.after hq
    | next => exact (show False from hq).elim
    | brk => exact (show False from hq).elim
    | cont => exact (show False from hq).elim
end
end Ev
end

section
set_option maxRecDepth 100000
set_option maxHeartbeats 4000000
namespace Ev
open PySem PySem.Spec PyProof.Rows L2

/-! ### the word of a refusal: try: call() except GameFault as error: .. -/
/-- what is known of the errors' classes; ex: those that may come, gf: GameFault -/
structure ExOk (K : PySem.W.Frag) (xc : Nat → Addr) (ex : List Nat) (gf : Nat) : Prop where
  c : ∀ i, i ∈ ex → ExcC K (xc i)
  kx : ∀ i j, i ∈ ex → j ∈ ex → PySem.W.kitOne K (.ref (xc i)) (.ref (xc j)) = some (i == j)
  kv : ∀ i, i ∈ ex → PySem.W.kitOne K (.ref (xc i)) (.type "ValueError") = some true
  km : ∀ i, i ∈ ex → PySem.W.exmOne K (.ref (xc i)) (.ref (xc gf)) = some true
/-- isinstance(error, ..): error is told as its bare address -/
def eIsE (a i : Nat) (b : Bool) : DE := fun ρ st => match (ρ[i]? : Option Slot) with
  | some (some (.dict [(.none, .int 5), (.int y, .none)], false)) => if y = (a : Int) then .ok (.bool b) st else .stuck
  | _ => .stuck
section
variable {X : Cx} {F : Fx} {p1 p2 p3 pos : Pos}
theorem pe_isE {a D : Addr} {oe : Obj} {pn : List (Addr × Obj)} {i : Nat} {n : Str} {ce : Expr} {cv : V} {cw : Value} {b : Bool} (C : ExcC X.K D) (hz : Zc (.ref D) none oe) (hf : ∃ vs, oe.data = .fields vs)
    (hg : Gl (X.suite a ((a, oe) :: pn)) "isinstance") (hm : X.mg "isinstance" = none) (hN : X.N[i]? = some n) (hv : Vis X.env.scope n) (hce : PE (X.suite a ((a, oe) :: pn)) ce (tC cv)) (hcv : ∀ u, RelV cv u → u = cw) (hk : PySem.W.kitOne X.K (.ref D) cw = some b)
    (hd : (n == ("__debug__" : Str)) = false := by decide) (hcd : (n == ("__classdict__" : Str)) = false := by decide)
    (h1 : starEach [.Name n p1, ce] (X.suite a ((a, oe) :: pn)).env = (false, eval (.Name n p1) (X.suite a ((a, oe) :: pn)).env) :: starEach [ce] (X.suite a ((a, oe) :: pn)).env := by rfl) (h2 : starEach [ce] (X.suite a ((a, oe) :: pn)).env = (false, eval ce (X.suite a ((a, oe) :: pn)).env) :: starEach [] (X.suite a ((a, oe) :: pn)).env := by rfl) (hpl : (backTo pos (starEach [ce] (X.suite a ((a, oe) :: pn)).env)).any (·.1) = false := by rfl) :
    PE (X.suite a ((a, oe) :: pn)) (.Call (.Name "isinstance" p2) [.Name n p1, ce] [] pos) (tD F [] false (eIsE a i b)) :=
  (pe_callB (call_isE C hz hf) hg hm boot_isinstance (pa_cons (pe_var (X := X.suite a ((a, oe) :: pn)) hN hv hd hcd) (pa_cons hce pa_nil h2) h1) (by decide) (by decide) h1 hpl).imp fun σ H Q ⟨L, AL, ρ, st, R, h⟩ => by
    unfold eIsE at h
    split at h
    · rename_i y q
      obtain ⟨v, s1, r⟩ := R.val i _ q
      split at h
      · rename_i e
        have ev : v = .ref a := by
          subst e
          cases r with
          | raw z => rfl
          | dic _ _ _ r => exact r.noNone.elim
        subst ev
        exact ⟨_, s1, cv, cw, b, rfl, hcv, hk, h _ H R (.refl _) (.bl b) fun z => nomatch z⟩
      · exact h.elim
    · exact h.elim
end
/-- what is wanted of a word's exception -/
def WEx (G : Gd) (xc : Nat → Addr) (ex : List Nat) (T : List (Addr × Str)) (Z L : List Addr) (AL : Addr → Prop) (H : Hp) (Q : VK) (wd : Nat → Exn → Store → ER PyData) : XK := fun cls dd H' => ∃ x st', cls = .ref (xc x.cls) ∧ x.cls ∈ ex ∧ dd = none ∧ Gnd G T Z L AL st' H' ∧ Ext L H H' ∧
  ∀ a, match wd a x st' with
    | .ok d st2 => ∀ v H2, Gnd G T Z L AL st2 H2 → Ext L H H2 → Rep G L H2 (fun b => b ∉ L ++ Z) d v → Q v H2
    | _ => False
/-- call() as a statement, then 'told' -/
def TTw (G : Gd) (xc : Nat → Addr) (ex : List Nat) (T : List (Addr × Str)) (told : V) (wd : Nat → Exn → Store → ER PyData) : (XK → Hp → VK → Prop) → Hp → VK → Prop := fun tl H Q => ∃ Z L AL, tl (WEx G xc ex T Z L AL H Q wd) H fun _ H' => Q told H'
/-- return call() -/
def TTr (G : Gd) (xc : Nat → Addr) (ex : List Nat) (T : List (Addr × Str)) (wd : Nat → Exn → Store → ER PyData) : (XK → Hp → VK → Prop) → Hp → VK → Prop := fun tl H Q => ∃ Z L AL, tl (WEx G xc ex T Z L AL H Q wd) H Q
theorem rel_w {G : Gd} {xc : Nat → Addr} {T : List (Addr × Str)} {Z L : List Addr} {AL : Addr → Prop} {st : Store} {H H' : Hp} {E : XK} {n : Nat} {σ : L2.St} (g : Gnd G T Z L AL st H') (e : Ext L H H') (hl : σ.length = n) : Rel ⟨G, xc, H, L, T, E, Z, n⟩ L AL (List.replicate n none) st σ H' := by
  have no : ∀ (i : Nat) d (w : Bool), (List.replicate n none : EnvD)[i]? = some (some (d, w)) → False := fun i d w h => by
    rw [List.getElem?_replicate] at h
    split at h <;> cases h
  exact ⟨by simp [hl], fun i d h => (no i d _ h).elim, fun i d h => (no i d _ h).elim, fun i j a ⟨⟨d, hi⟩, _⟩ => (no i d _ hi).elim, e, ⟨[], by simp, fun b z => by cases z⟩, g.lnd, g.ll, g.cell, fun b h => ⟨g.al b h, fun i ⟨⟨d, hi⟩, _⟩ => no i d _ hi⟩, g.ald, g.tab, g.zt, by simp⟩
/-- the suite's mirror as a word: sd a c: error is at a, of the class c -/
def wdOf (n i : Nat) (sd : Nat → Nat → DS) : Nat → Exn → Store → ER PyData := fun a x st => match sd a x.cls ((List.replicate n none : EnvD).set i (some (rawv a, false))) st with
  | .ret d _ st => .ok d st
  | _ => .stuck
section
variable {X : Cx}
theorem word_suite {G : Gd} {xc : Nat → Addr} {ex : List Nat} {T : List (Addr × Str)} {Z L : List Addr} {AL : Addr → Prop} {H H' : Hp} {Q : VK} {n i : Nat} {sd : Nat → Nat → DS} {x : Exn} {st' : Store} {σ : L2.St} {a : Addr} {D : Ends} (hl : σ.length = n) (g : Gnd G T Z L AL st' H') (e : Ext L H H') (hD : D.rt = Q)
    (h : match wdOf n i sd a x st' with
      | .ok d st2 => ∀ v H2, Gnd G T Z L AL st2 H2 → Ext L H H2 → Rep G L H2 (fun b => b ∉ L ++ Z) d v → Q v H2
      | _ => False) : tS ⟨G, xc, H, L, T, fun _ _ _ => False, Z, n⟩ (sd a x.cls) D (σ.set i (some (.ref a))) H' := by
  have R := (rel_w (xc := xc) (E := fun _ _ _ => False) g e hl).put (i := i) (d := rawv a) (v := .ref a) (A := fun _ => False) (.raw a) fun b k => k.elim
  refine ⟨L, AL, _, st', R, ?_⟩
  unfold wdOf at h
  cases q : sd a x.cls ((List.replicate n none : EnvD).set i (some (rawv a, false))) st' with
  | ret d f st2 =>
    rw [q] at h
    intro ρ' σ' v H2 R2 rp _
    rw [hD]
    exact h v H2 R2.gnd R2.ext rp
  | nx _ _ => rw [q] at h; exact h.elim
  | brk _ _ => rw [q] at h; exact h.elim
  | ct _ _ => rw [q] at h; exact h.elim
  | exn _ _ => rw [q] at h; exact h.elim
  | stuck => rw [q] at h; exact h.elim
theorem takes_len {pn : List (Addr × Obj)} {xe : Value → Shared → Prop} {W : WX} {n : Nat} (tk : Takes (X.tr pn xe) W) (hn : X.N.length = n := by rfl) : Takes (X.tr pn xe) (fun cls d σ H => σ.length = n → W cls d σ H) :=
  fun u s' ⟨a, B, sI, pins, σ, H, cls, d, e, I, nb, up, sky, na, os, ag, w⟩ => tk u s' ⟨a, B, sI, pins, σ, H, cls, d, e, I, nb, up, sky, na, os, ag, w (I.len.trans hn)⟩
theorem word_gives {G : Gd} {xc : Nat → Addr} {ex : List Nat} {gf : Nat} {T : List (Addr × Str)} {Ng : List Str} {x a q : Str} {sg : Scope} {g : Addr} {cdg : Value} {i : Nat} {gn en told : Str} {j0 : Nat} {b0 : Stmt} {suite : List Stmt} {sd : Nat → Nat → DS} {p1 p2 p3 p4 p5 p6 p7 p8 : Pos}
    (hK : G.K = X.K) (xo : ExOk X.K xc ex gf) (nd : Ng.Nodup) (hge : sg.names.lookup gn = some .globalImplicit) (hme : X.mg gn = some (.ref (xc gf))) (hde : (gn == ("__debug__" : Str)) = false) (h0 : ∀ f : Addr, (L2.start Ng [V.ref f])[0]? = some (some (V.ref f))) (hlen : ∀ f : Addr, (L2.start Ng [V.ref f]).length = Ng.length) (hi : Ng[i]? = some en) (hen : sg.names.lookup en = some .local)
    (walk : ∀ (s : Shared) (H : Hp) (F : Fx) (e : Addr) (oe : Obj) (c : Nat) (pn : List (Addr × Obj)), F.G = G → F.n = Ng.length → c ∈ ex → Zc (.ref (xc c)) none oe → (∃ vs, oe.data = .fields vs) →
      PSs (((cxOf C8.CX0 X.prog X.w X.K X.mg X.base Ng x sg g cdg X.A X.stack s H C8.E0).nox).suite e ((e, oe) :: pn)) (b0 :: suite) (tS F (sd e c))) :
    LamX.GivesTo X Ng x sg g cdg [.Try [.Expr (.Call (.Name a p1) [] [] p2) p3] [.ExceptHandler (some (.Name gn p4)) (some en) (b0 :: suite) p5] [] [] p6, .Return (some (.Constant (.str told) j0 p7)) p8] a q (TTw G xc ex T (.str told) (wdOf Ng.length i sd)) := by
  intro f c' s H Q tl act hc ⟨Z, L, AL, h⟩
  have hgl : Gl (cxOf C8.CX0 X.prog X.w X.K X.mg X.base Ng x sg g cdg X.A X.stack s H C8.E0).nox gn := hge
  have hsg : (cxOf C8.CX0 X.prog X.w X.K X.mg X.base Ng x sg g cdg X.A X.stack s H C8.E0).nox.env.kindOf en = some .local := hen
  refine ⟨_, pss_cons (ps_try_as (X := (cxOf C8.CX0 X.prog X.w X.K X.mg X.base Ng x sg g cdg X.A X.stack s H C8.E0).nox) (c := .ref (xc gf)) (i := i)
      (tb := fun W D σ H => ∃ Ech : XK, (∀ cls d (σ' : L2.St) H', σ'.length = Ng.length → Ech cls d H' → W cls d σ' H') ∧ σ[0]? = some (some (.ref f)) ∧ H c' = some (LamX.CodeO c' q) ∧ tl Ech H fun _ H1 => D.nx σ H1)
      (ts := fun e cls d D σ H1 => ∃ F c, F.G = G ∧ F.n = Ng.length ∧ c ∈ ex ∧ cls = .ref (xc c) ∧ d = none ∧ tS F (sd e c) D σ H1)
      rfl rfl nd hi hsg ⟨hgl, hde, .inl hme⟩ LamX.takes0 (fun W pn xe tk _ => ⟨fun pins s' σ H' D I ⟨Ech, hW, h1, h2, h3⟩ => ?_⟩) (fun e oe cls d pn hz hf => ⟨fun pins s' σ H' D I ⟨F, c, h1, h2, h3, h4, h5, h6⟩ => ?_⟩)) (pss_one (ps_ret pe_str)), ?_⟩
  · exact (pss_one (ps_expr (pos := p3) (act _ pn xe Ech p1 p2 (takes_len tk) fun cls d σ' H' q z => hW cls d σ' H' z q))).run pins s' σ H' D I ⟨h1, h2, h3⟩
  · subst h4 h5
    exact (walk s H F e oe c pn h1 h2 h3 hz hf).run pins s' σ H' D I h6
  · refine ⟨WEx G xc ex T Z L AL H Q (wdOf Ng.length i sd), fun cls d σ' H' hlσ ⟨y, st', e1, e2, e3, e4, e5, e6⟩ => ⟨true, by rw [e1]; exact xo.km _ e2, fun _ e _ => ⟨⟨G, xc, H, L, T, fun _ _ _ => False, Z, Ng.length⟩, y.cls, rfl, rfl, e2, e1, e3, word_suite (ex := ex) hlσ e4 e5 rfl (e6 e)⟩, fun z => nomatch z⟩, h0 f, hc, h⟩
theorem word_givesR {G : Gd} {xc : Nat → Addr} {ex : List Nat} {gf : Nat} {T : List (Addr × Str)} {Ng : List Str} {x a q : Str} {sg : Scope} {g : Addr} {cdg : Value} {i : Nat} {gn en : Str} {b0 : Stmt} {suite : List Stmt} {sd : Nat → Nat → DS} {p1 p2 p3 p4 p5 p6 : Pos}
    (hK : G.K = X.K) (xo : ExOk X.K xc ex gf) (nd : Ng.Nodup) (hge : sg.names.lookup gn = some .globalImplicit) (hme : X.mg gn = some (.ref (xc gf))) (hde : (gn == ("__debug__" : Str)) = false) (h0 : ∀ f : Addr, (L2.start Ng [V.ref f])[0]? = some (some (V.ref f))) (hlen : ∀ f : Addr, (L2.start Ng [V.ref f]).length = Ng.length) (hi : Ng[i]? = some en) (hen : sg.names.lookup en = some .local)
    (walk : ∀ (s : Shared) (H : Hp) (F : Fx) (e : Addr) (oe : Obj) (c : Nat) (pn : List (Addr × Obj)), F.G = G → F.n = Ng.length → c ∈ ex → Zc (.ref (xc c)) none oe → (∃ vs, oe.data = .fields vs) →
      PSs (((cxOf C8.CX0 X.prog X.w X.K X.mg X.base Ng x sg g cdg X.A X.stack s H C8.E0).nox).suite e ((e, oe) :: pn)) (b0 :: suite) (tS F (sd e c))) :
    LamX.GivesTo X Ng x sg g cdg [.Try [.Return (some (.Call (.Name a p1) [] [] p2)) p3] [.ExceptHandler (some (.Name gn p4)) (some en) (b0 :: suite) p5] [] [] p6] a q (TTr G xc ex T (wdOf Ng.length i sd)) := by
  intro f c' s H Q tl act hc ⟨Z, L, AL, h⟩
  have hgl : Gl (cxOf C8.CX0 X.prog X.w X.K X.mg X.base Ng x sg g cdg X.A X.stack s H C8.E0).nox gn := hge
  have hsg : (cxOf C8.CX0 X.prog X.w X.K X.mg X.base Ng x sg g cdg X.A X.stack s H C8.E0).nox.env.kindOf en = some .local := hen
  refine ⟨_, pss_one (ps_try_as (X := (cxOf C8.CX0 X.prog X.w X.K X.mg X.base Ng x sg g cdg X.A X.stack s H C8.E0).nox) (c := .ref (xc gf)) (i := i)
      (tb := fun W D σ H => ∃ Ech : XK, (∀ cls d (σ' : L2.St) H', σ'.length = Ng.length → Ech cls d H' → W cls d σ' H') ∧ σ[0]? = some (some (.ref f)) ∧ H c' = some (LamX.CodeO c' q) ∧ tl Ech H D.rt)
      (ts := fun e cls d D σ H1 => ∃ F c, F.G = G ∧ F.n = Ng.length ∧ c ∈ ex ∧ cls = .ref (xc c) ∧ d = none ∧ tS F (sd e c) D σ H1)
      rfl rfl nd hi hsg ⟨hgl, hde, .inl hme⟩ LamX.takes0 (fun W pn xe tk _ => ⟨fun pins s' σ H' D I ⟨Ech, hW, h1, h2, h3⟩ => ?_⟩) (fun e oe cls d pn hz hf => ⟨fun pins s' σ H' D I ⟨F, c, h1, h2, h3, h4, h5, h6⟩ => ?_⟩)), ?_⟩
  · exact (pss_one (ps_ret (pos := p3) (act _ pn xe Ech p1 p2 (takes_len tk) fun cls d σ' H' q z => hW cls d σ' H' z q))).run pins s' σ H' D I ⟨h1, h2, h3⟩
  · subst h4 h5
    exact (walk s H F e oe c pn h1 h2 h3 hz hf).run pins s' σ H' D I h6
  · refine ⟨WEx G xc ex T Z L AL H Q (wdOf Ng.length i sd), fun cls d σ' H' hlσ ⟨y, st', e1, e2, e3, e4, e5, e6⟩ => ⟨true, by rw [e1]; exact xo.km _ e2, fun _ e _ => ⟨⟨G, xc, H, L, T, fun _ _ _ => False, Z, Ng.length⟩, y.cls, rfl, rfl, e2, e1, e3, word_suite (ex := ex) hlσ e4 e5 rfl (e6 e)⟩, fun z => nomatch z⟩, h0 f, hc, h⟩
end
section
variable {X : Cx} {F : Fx} {M : List Nat} {fr : Bool} {lam : DE} {p lp pos : Pos}
/-- x(lambda: ..), x a word: told is its answer where nothing is refused -/
def eWord (told : PyData → PyData) (wd : Exn → Option PyData) (lam : DE) : DE := fun ρ st => match lam ρ st with
  | .ok d st => .ok (told d) st
  | .exn x st => match wd x with
    | some d => .ok d st
    | none => .stuck
  | .stuck => .stuck
theorem lam_ext {L : List Addr} {AL : Addr → Prop} {ρ : EnvD} {st : Store} {σ : L2.St} {H H1 : Hp} (R : Rel F L AL ρ st σ H) (en : LamX.ExtN H H1) (dm : ∀ b, H b ≠ none → H1 b ≠ none) (tb : LamX.Tabs F.T H1) : Rel F L AL ρ st σ H1 ∧ Ext L H H1 := by
  have nt : ∀ b o, H b = some o → isTbl o = false → H1 b = some o := fun b o h t => en b o h fun ps z => by rw [z] at t; cases t
  have e : Ext L H H1 := ⟨fun b o h _ t => nt b o h t, dm⟩
  refine ⟨R.step e R.ll (fun i a ds h1 h2 => ?_) tb, e⟩
  obtain ⟨vs, h3, h4, h5⟩ := R.cell i a ds h1 h2
  exact ⟨vs, nt _ _ h3 rfl, h4, h5.keep fun b o hb _ t => nt b o hb (skip_tbl t)⟩
theorem Rel.ex {L : List Addr} {AL : Addr → Prop} {ρ : EnvD} {st : Store} {σ : L2.St} {H : Hp} (R : Rel F L AL ρ st σ H) (E : XK) : Rel { F with EX := E } L AL ρ st σ H := ⟨R.len, R.val, R.own, R.ne, R.ext, R.lx, R.lnd, R.ll, R.cell, R.al, R.ald, R.tab, R.zt, R.nn⟩
theorem Rel.unex {L : List Addr} {AL : Addr → Prop} {ρ : EnvD} {st : Store} {σ : L2.St} {H : Hp} {E : XK} (R : Rel { F with EX := E } L AL ρ st σ H) : Rel F L AL ρ st σ H := ⟨R.len, R.val, R.own, R.ne, R.ext, R.lx, R.lnd, R.ll, R.cell, R.al, R.ald, R.tab, R.zt, R.nn⟩
theorem ap_all {L : List Addr} {AL : Addr → Prop} {ρ : EnvD} {st : Store} {σ : L2.St} {H H1 : Hp} (R : Rel F L AL ρ st σ H) {b : Addr} (k : b ∉ L ++ F.Z) : AP (L ++ F.Z) ρ σ (List.range F.n) H1 b := ⟨k, .inr fun i ⟨⟨d, hi⟩, _⟩ => by
  have := (List.getElem?_eq_some_iff.mp hi).1
  rw [List.mem_range, ← R.nn]
  exact this⟩
/-- the handler's wish, of a lambda's exception -/
theorem word_exn {ex : List Nat} {wa : Nat → Exn → Store → ER PyData} {wd : Exn → Option PyData} (hw : ∀ a x st d, wd x = some d → x.cls ∈ ex ∧ x.fs = [] ∧ wa a x st = .ok d st)
    {L : List Addr} {AL : Addr → Prop} {ρ : EnvD} {st : Store} {σ : L2.St} {H H1 : Hp} {Q : VK} {x : Exn} {st' : Store} (R1 : Rel F L AL ρ st σ H1) (E1 : Ext L H H1)
    (h : DPost F L AL ρ σ H (List.range F.n) false Q (match wd x with | some d => .ok d st' | none => .stuck)) :
    ∀ cls dd H', Rel { F with EX := WEx F.G F.xc ex F.T F.Z L AL H1 Q wa } L AL ρ st' σ H' → Ext L H1 H' → XRep { F with EX := WEx F.G F.xc ex F.T F.Z L AL H1 Q wa } x cls dd H' → WEx F.G F.xc ex F.T F.Z L AL H1 Q wa cls dd H' := fun cls dd H' R' E' xr => by
  cases q : wd x with
  | none => rw [q] at h; exact h.elim
  | some d =>
    rw [q] at h
    obtain ⟨w1, w2, _⟩ := hw 0 x st' d q
    refine ⟨x, st', xr.1, w1, ?_, R'.gnd, E', fun a => ?_⟩
    · rcases xr.2 with ⟨_, z⟩ | ⟨_, _, z, _⟩
      · exact z
      · exact absurd w2 z
    · rw [(hw a x st' d q).2.2]
      exact fun v H2 g2 E2 rp => h v H2 (R1.step E2 g2.ll g2.cell g2.tab) (E1.trans E2) (rp.imp fun b k _ => ap_all R1 k) fun z => nomatch z
theorem word_read {ex : List Nat} {told : V} {td : PyData} {wa : Nat → Exn → Store → ER PyData} {wd : Exn → Option PyData} (htd : ∀ L H A, Rep F.G L H A td told) (hw : ∀ a x st d, wd x = some d → x.cls ∈ ex ∧ x.fs = [] ∧ wa a x st = .ok d st)
    {σ : L2.St} {H : Hp} {Q : VK} (h : tD F (List.range F.n) false (eWord (fun _ => td) wd lam) σ H Q) : tLamX F.T (TTw F.G F.xc ex F.T told wa) (fun E => tD { F with EX := E } M fr lam) σ H Q := by
  obtain ⟨L, AL, ρ, st, R, h⟩ := h
  refine ⟨R.tab, fun H1 en dm tb => ?_⟩
  obtain ⟨R1, E1⟩ := lam_ext R en dm tb
  refine ⟨F.Z, L, AL, L, AL, ρ, st, R1.ex _, ?_⟩
  unfold eWord at h
  cases q : lam ρ st with
  | ok d st' =>
    rw [q] at h
    exact fun v H' R' E' _ _ => h told H' R'.unex (E1.trans E') (htd _ _ _) fun z => nomatch z
  | exn x st' =>
    rw [q] at h
    exact word_exn hw R1 E1 h
  | stuck => rw [q] at h; exact h
theorem wordR_read {ex : List Nat} {wa : Nat → Exn → Store → ER PyData} {wd : Exn → Option PyData} (hw : ∀ a x st d, wd x = some d → x.cls ∈ ex ∧ x.fs = [] ∧ wa a x st = .ok d st)
    {σ : L2.St} {H : Hp} {Q : VK} (h : tD F (List.range F.n) false (eWord (fun d => d) wd lam) σ H Q) : tLamX F.T (TTr F.G F.xc ex F.T wa) (fun E => tD { F with EX := E } M fr lam) σ H Q := by
  obtain ⟨L, AL, ρ, st, R, h⟩ := h
  refine ⟨R.tab, fun H1 en dm tb => ?_⟩
  obtain ⟨R1, E1⟩ := lam_ext R en dm tb
  refine ⟨F.Z, L, AL, L, AL, ρ, st, R1.ex _, ?_⟩
  unfold eWord at h
  cases q : lam ρ st with
  | ok d st' =>
    rw [q] at h
    exact fun v H' R' E' r _ => h v H' R'.unex (E1.trans E') (r.imp fun b k _ => ap_all R1 k.1) fun z => nomatch z
  | exn x st' =>
    rw [q] at h
    exact word_exn hw R1 E1 h
  | stuck => rw [q] at h; exact h
end
end Ev
end

section
set_option maxRecDepth 100000
set_option maxHeartbeats 4000000
namespace Ev
open PySem PySem.Spec PyProof.Rows L2

/-- the code object of the def at f -/
def CodeAt (K : PySem.W.Frag) (f c : Addr) : Prop := ∀ oc od fd osl, K.lookup f = some ⟨oc, od, .func fd, osl⟩ → fd.code = .ref c
section
variable {P : Program} {w : World} {K : PySem.W.Frag} {mg : Str → Option Value} {base : Heap} {x qual : Str} {params : Arguments} {body : List Stmt} {scope : Scope} {dvs : List V} {kws : List (Str × V)} {f : Addr} {fd : FuncData}
/-- .. for a def that makes lambdas: c is its code object -/
theorem okDL {G : Gd} {xc : Nat → Addr} {T : List (Addr × Str)} {N ps : List Str} {k n : Nat} {fr : Bool} {bm : DS} {c : Addr} (F : FunD K x qual params body scope dvs kws f fd) (hc : CodeAt K f c) (S : FnScope N ps scope) (hps : ps.length = n) (hle : n ≤ N.length)
    (hb : ∀ (A : Around) (outer : List Env) (s : Shared) (H : Hp) (E : XK) (L Z : List Addr), Room k (A.deeper (envOfC qual scope s.heap.objs.size f (.ref c))) →
      PSs (cxOf (L2.CX P w) P w K mg base N qual scope f (.ref c) A outer s H E) body (tS ⟨G, xc, H, L, T, E, Z, N.length⟩ bm)) :
    FnOk P w K mg base (L2.CX P w) (k + 1) f fd ps (spD G xc T n fr (defD N.length n fr bm)) := by
  obtain ⟨oc, od, dV, kV, doc, pm, an, cdv, ct, osl, rfl, lk, hcd, _, _⟩ := F.ex
  have e : cdv = .ref c := hc _ _ _ _ lk
  subst e
  refine fn_of lk hcd S (fun vs H Q E h => by rw [h.1, hps]) fun A outer s H vs Q E hr ⟨hn, L, AL, Z, ds, st, g, r, h⟩ => ?_
  refine ⟨_, hb A outer s H E L Z hr, L, AL, _, st, rel0 g r (by omega), ?_⟩
  have hl := r.length
  unfold defD at h
  rw [if_pos (by omega : ds.length = n)] at h
  rw [hn]
  generalize bm (ds.map (fun d => some (d, false)) ++ List.replicate (N.length - n) none) st = r0 at h
  cases r0 with
  | nx ρ' st' => exact fun σ' H' R' fm => h _ H' R'.gnd R'.ext .non fun z1 z2 => by cases z2
  | brk ρ' st' => exact h.elim
  | ct ρ' st' => exact h.elim
  | stuck => exact h.elim
  | exn x st' => exact fun ρ' σ' cls dd H' R' xr => h cls dd H' _ rfl rfl R'.gnd R'.ext xr
  | ret d f st' =>
    intro ρ' σ' v H' R' rp fre
    have h : CPost G xc T Z L AL H fr Q E (if (fr && !f && mutD d) = true then .stuck else .ok d st') := h
    by_cases c : (fr && !f && mutD d) = true
    · rw [if_pos c] at h; exact h.elim
    · rw [if_neg c] at h
      refine h v H' R'.gnd R'.ext rp fun z1 z2 => ?_
      have hf : f = true := by
        cases f with
        | true => rfl
        | false => exact absurd (by simp [z1, z2]) c
      exact fre hf z2
end
section
variable {X : Cx} {F : Fx} {M : List Nat} {fr : Bool} {lam : DE} {p lp pos : Pos}
/-- x(lambda: ..), x a word of one parameter -/
theorem pe_wordD {x a : Str} {g c Pt : Addr} {k : Nat} {pg : Arguments} {bg : List Stmt} {sg : Scope} {fd : FuncData} {Ng : List Str} {ar : Arguments} {bd : Expr} {sc : Scope} {TT : (XK → Hp → VK → Prop) → Hp → VK → Prop} {f : DE}
    (D : FunD X.K x x pg bg sg [] [] g fd) (hb : Binds X.K fd [a] []) (hg : Gl X x) (hm : X.mg x = some (.ref g)) (Sg : FnScope Ng [a] sg) (hN0 : Ng[0]? = some a) (hva : Vis sg a)
    (hG : ∀ cdg, LamX.GivesTo X Ng x sg g cdg bg a (X.env.qual ++ "<lambda>") TT)
    (TB : LamX.TabB X.base X.mg c Pt) (hcd : X.env.code = .ref c) (hPT : (Pt, X.env.qual ++ "<lambda>") ∈ F.T) (hun : ∀ p ∈ F.T, p.1 = Pt → p.2 = X.env.qual ++ "<lambda>") (hr : Room (k + 2) X.A) (Ls : LamX.LamS X.env.scope sc) (hdf : defaultsOf ar X.env = ([], []))
    (hbd : ∀ (q : Str) (cl : List (Str × Addr)) (pm cv ctv : Value), bindArgs (PySem.W.kla_fn "<lambda>" q ar bd sc cl pm cv ctv) ⟨[], []⟩ = pure [])
    (walk : ∀ (A : Around) (outer : List Env) (s : Shared) (H : Hp) (E : XK) (f z : Addr), Room k (A.deeper (LamX.lamEnv X sc s.heap.objs.size f z)) → PE (LamX.lamCx X A outer s H E sc f z) bd (tD { F with EX := E } M fr lam))
    (hrd : ∀ {σ : L2.St} {H : Hp} {Q : VK}, tD F (List.range F.n) false f σ H Q → tLamX F.T TT (fun E => tD { F with EX := E } M fr lam) σ H Q)
    (d1 : (x == ("__debug__" : Str)) = false := by decide) (d2 : (a == ("__debug__" : Str)) = false := by decide) (d3 : (a == ("__classdict__" : Str)) = false := by decide) :
    PE X (.Call (.Name x p) [.Lambda ar bd sc lp] [] pos) (tD F (List.range F.n) false f) := by
  have kp := D.kp
  obtain ⟨oc, od, dV, kV, doc, pm, an, cdv, ct, osl, rfl, lk, hcg, _, _⟩ := D.ex
  exact (pe_lamX (t := fun E => tD { F with EX := E } M fr lam) hg hm kp lk hcg hb Sg hN0 hva (hG cdv) TB hcd hPT hun hr Ls hdf hbd walk d1 d2 d3).imp fun σ H Q h => hrd h

/-! ### a def as a value, called -/
def eVcase (i j : Nat) (f1 f2 : DE) : DE := fun ρ st => match (ρ[i]? : Option Slot) with
  | some (some (.dict [(.none, .int 2), (.int n, .none)], false)) => if n = (j : Int) then f1 ρ st else f2 ρ st
  | _ => .stuck
theorem pe_stuckD {e : Expr} : PE X e (tD F M fr fun _ _ => .stuck) := ⟨fun _ _ _ _ _ _ ⟨_, _, _, _, _, h⟩ => h.elim⟩
variable {k n : Nat} {f : Addr} {fd : FuncData} {ps : List Str} {x : Str} {G : Gd} {xc : Nat → Addr} {T : List (Addr × Str)} {m : DF} {e : Expr} {es : List Expr} {fs : DEs}
theorem pe_callVD {i j : Nat} {rest : DE} (Fn : FnOk X.prog X.w X.K X.mg X.base (L2.CX X.prog X.w) k (G.fa j) fd ps (spD G xc T n fr m)) (hr : Room k X.A) (hN : X.N[i]? = some x) (hv : Vis X.env.scope x) (hk : PySem.W.keepIn X.K (.ref (G.fa j)) = true) (hb : Binds X.K fd ps []) (hx : Passes (L2.CX X.prog X.w) X F.EX)
    (h1 : F.G = G) (h2 : F.xc = xc) (h3 : F.T = T) (hl : ∀ ds st, ds.length ≠ n → m ds st = .stuck)
    (ha : PA X (e :: es) (tDs F M fs)) (hrest : PE X (.Call (.Name x p) (e :: es) [] pos) (tD F (List.range F.n) fr rest)) (hdb : (x == ("__debug__" : Str)) = false := by decide) (hcd : (x == ("__classdict__" : Str)) = false := by decide) (he : starEach (e :: es) X.env = (false, eval e X.env) :: starEach es X.env := by rfl) (hpl : (backTo pos (starEach es X.env)).any (·.1) = false := by rfl) :
    PE X (.Call (.Name x p) (e :: es) [] pos) (tD F (List.range F.n) fr (eVcase i j (eCall m fs) rest)) := by
  have P1 : PE X (.Call (.Name x p) (e :: es) [] pos) (fun σ H Q => σ[i]? = some (some (.ref (G.fa j))) ∧ tD F (List.range F.n) fr (eCall m fs) σ H Q) := (pe_callL (i := i) Fn hr hN hv hk hb .nil hx ha hdb hcd he hpl).imp fun σ H Q ⟨hs, h⟩ => ⟨hs, by
    have := call_read (M := M) h1 h2 h3 hl h
    show tDs F M fs σ H fun vs H1 => spD G xc T n fr m (vs ++ []) H1 Q F.EX
    simpa using this⟩
  refine ⟨fun pins s σ H Q I ⟨L, AL, ρ, st, R, h⟩ => ?_⟩
  unfold eVcase at h
  split at h
  · rename_i y q
    split at h
    · rename_i e0
      obtain ⟨v, s1, r⟩ := R.val i _ q
      have ev : v = .ref (G.fa j) := by
        subst e0
        cases r with
        | fn z => rw [h1]
        | dic _ _ _ r => exact r.noNone.elim
      subst ev
      exact P1.run pins s σ H Q I ⟨s1, L, AL, ρ, st, R, h⟩
    · exact hrest.run pins s σ H Q I ⟨L, AL, ρ, st, R, h⟩
  · exact h.elim
end
end Ev
end

section
set_option maxRecDepth 100000
set_option maxHeartbeats 4000000
namespace L2
open PySem PySem.Spec PyProof.Rows
section
variable {P : Program} {w : World} {A : Around} {E : Value → Shared → Prop} {s : Shared}
abbrev set0 (w : World) : Obj := { cls := .type "set", dict := none, data := .set #[] 0 (.fresh 0 0 (!w.params.followText "set-order")) }
/-- set.__init__ of a list or a tuple: the loop is what is left -/
theorem ev_setInit (k : Ev.Kd) {l S : Addr} {items : Array Value} {R : Result → Shared → Prop} (hl : Ev.IsK k s.heap l items) (gS : s.heap.get? S = some (set0 w)) 
    (loop : codeAny (model P w) A.in1 (.builtin "set.update.loop" ⟨[.ref S, .ref s.heap.objs.size], []⟩) (fun r s' => r = .ok (.ret .none) ∧ R (.ok (.ret .none)) s') { s with heap := s.heap.push (Ev.obK k l) }) :
    wpAny (model P w) A.in1 (Builtin.«set.__init__» ⟨[.ref S, .ref l], []⟩) (fun fin s' => match fin with | .done f => R (.ok f) s' | .again c' => c'.quiet = true ∧ codeAny (model P w) A c' R s') (fun e s' => R (.error e) s') s := by
  cases k with
  | l =>
    have hl0 : s.heap.IsList l items := hl
    obtain ⟨⟨c1, d1, e1, f1⟩, g1, g2, n1, g3⟩ := hl
    simp only at g2 g3
    subst g2 g3
    have q1 := F.sub_list_set
    have q2 := F.sub_list_frozenset
    have q3 : (Value.type "list" == Value.type "dict") = false := by decide
    unfold Builtin.«set.__init__» noKeywords Builtin.Frozenset.updateFrom
    generalize ePI : pyIter = PI
    wp_walk
    subst ePI
    refine wpAny_pyIter_list hl0 ?_
    refine wpAny_bind (wpAny_runValue ?_)
    exact codeAny_mono loop fun r s' ⟨e, hr⟩ => by subst e; exact wpAny_pure (wpAny_pure hr)
  | t =>
    have hl0 : s.heap.IsTuple l items := hl
    obtain ⟨⟨c1, d1, e1, f1⟩, g1, g2, n1, g3⟩ := hl
    simp only at g2 g3
    subst g2 g3
    have q1 := F.sub_tuple_set
    have q2 := F.sub_tuple_frozenset
    have q3 : (Value.type "tuple" == Value.type "dict") = false := by decide
    unfold Builtin.«set.__init__» noKeywords Builtin.Frozenset.updateFrom
    generalize ePI : pyIter = PI
    wp_walk
    subst ePI
    refine wpAny_pyIter_tuple hl0 ?_
    refine wpAny_bind (wpAny_runValue ?_)
    exact codeAny_mono loop fun r s' ⟨e, hr⟩ => by subst e; exact wpAny_pure (wpAny_pure hr)
/-- set(l), l a list or a tuple -/
theorem ev_setCall (k : Ev.Kd) {l : Addr} {items : Array Value} {Q : Value → Shared → Prop} (hl : Ev.IsK k s.heap l items)
    (loop : codeAny (model P w) A.in1.in1 (.builtin "set.update.loop" ⟨[.ref s.heap.objs.size, .ref (s.heap.objs.size + 1)], []⟩) (fun r s' => r = .ok (.ret .none) ∧ Q (.ref s.heap.objs.size) s') { s with heap := (s.heap.push (set0 w)).push (Ev.obK k l) }) :
    wpAny (model P w) A (call (.type "set") [.ref l]) Q E s := by
  obtain ⟨cM, tM, mro⟩ := F.called_set.mro
  have made := F.called_set.made
  have subs := F.called_set.sub
  refine wpAny_call (codeAny_of_tree ?_)
  show wpAny _ _ (callAny (.type "set") _) _ _ _
  refine wpAny_pure ⟨Code.quiet_builtin _ (by decide +kernel), codeAny_builtin F.entry_type_call ?_⟩
  rw [Around.under_plain (weight_type_call_type "set" [.ref l] []) rfl]
  have t1 := F.called_set.notType
  have t2 := F.called_set.canCreate
  have t3 := F.typeCall_set_1 (.ref l)
  repeat (any_goals (first | assumption | wp_step))
  refine codeAny_mono (code_set_led1 (.ref l) (E := E) (Q₁ := fun obj s1 => obj = .ref s.heap.objs.size ∧ s1 = { s with heap := s.heap.push (set0 w) }) ⟨rfl, rfl⟩) fun r s1 hr => ?_
  cases r with
  | error e => exact hr
  | ok fl =>
    cases fl with
    | ret obj =>
      obtain ⟨rfl, rfl⟩ := hr
      have gS : (s.heap.push (set0 w)).get? s.heap.objs.size = some (set0 w) := Heap.get?_push_size _ rfl
      have tS : Shared.TypeIs { s with heap := s.heap.push (set0 w) } (.ref s.heap.objs.size) "set" := ⟨_, gS, rfl⟩
      have i1 := F.called_set.init.lookup
      have i2 := F.called_set.init.bind (.ref s.heap.objs.size)
      repeat (any_goals (first | assumption | wp_step))
      refine codeAny_mono (codeAny_call_builtin (R := wants (fun r s2 => r = .none ∧ Q (.ref s.heap.objs.size) s2) E) F.called_set.init.plain F.entry_set_init (check_set_init_1 tS ?_)) fun r2 s2 hr2 => ?_
      · have hl1 : Ev.IsK k (s.heap.push (set0 w)) l items := by
          cases k with
          | l => exact Heap.IsList.push hl _
          | t => exact Heap.IsTuple.push hl _
        refine ev_setInit k (s := { s with heap := s.heap.push (set0 w) }) (A := A.in1) hl1 gS ?_
        have sz : (s.heap.push (set0 w)).objs.size = s.heap.objs.size + 1 := Heap.size_push ..
        show codeAny (model P w) A.in1.in1 (.builtin "set.update.loop" ⟨[.ref s.heap.objs.size, .ref (s.heap.push (set0 w)).objs.size], []⟩) _ _
        rw [sz]
        exact codeAny_mono loop fun r s' ⟨e, q⟩ => ⟨e, rfl, q⟩
      · cases r2 with
        | error e => exact hr2
        | ok fl2 =>
          cases fl2 with
          | ret r =>
            obtain ⟨rfl, hq⟩ := hr2
            repeat (any_goals (first | assumption | wp_step))
          | next => exact (show False from hr2).elim
          | brk => exact (show False from hr2).elim
          | cont => exact (show False from hr2).elim
    | next => exact (show False from hr).elim
    | brk => exact (show False from hr).elim
    | cont => exact (show False from hr).elim
theorem walkK (k : Ev.Kd) {A : Around} (hh : A.handled = none) (I a : Addr) (hne : a ≠ I) (items : Array Value) : Walks P w A I [I, a] [I] items.size (fun i v => items[i]? = some v) (fun i h => Ev.ItK k h I a i ∧ Ev.IsK k h a items) := by
  cases k with
  | l => exact Walks.list hh I a hne items
  | t => exact Walks.tuple hh I a hne items
theorem IsK.push {k : Ev.Kd} {h : Heap} {a : Addr} {items : Array Value} (x : Ev.IsK k h a items) (o : Obj) : Ev.IsK k (h.push o) a items := by
  cases k with
  | l => exact Heap.IsList.push x o
  | t => exact Heap.IsTuple.push x o
theorem out_fp {n l : Nat} (h : l < n) : n ∉ [n + 1, l] := by
  simp only [List.mem_cons, List.not_mem_nil, or_false, not_or]
  exact ⟨Nat.ne_of_lt (Nat.lt_succ_self _), Nat.ne_of_gt h⟩
/-- what the loop leaves of the older objects -/
theorem moved_old {h : Heap} {s' s0 : Shared} {o1 o2 : Obj} {b : Addr} {o : Obj} (e0 : s0.heap = (h.push o1).push o2) (hm : Moved [h.objs.size, h.objs.size + 1] (fun a b => b = a) s0 s') (e : h.get? b = some o) : s'.heap.get? b = some o := by
  have lt : b < h.objs.size := Heap.lt_size e
  refine hm.heap b o (by
    have n1 : b ≠ h.objs.size := Nat.ne_of_lt lt
    have n2 : b ≠ h.objs.size + 1 := Nat.ne_of_lt (Nat.lt_succ_of_lt lt)
    simp [n1, n2]) ?_
  rw [e0]
  exact Heap.get?_push_of_some _ (Heap.get?_push_of_some _ e)
theorem ev_setInts (k : Ev.Kd) {l : Addr} {items : Array Value} (ns : List Int) {Q : Value → Shared → Prop} (hh : A.handled = none) (hl : Ev.IsK k s.heap l items) (hit : IntsAre items.toList ns) (hb : ns.length + 1 < scanBound)
    (h : ∀ (h' : Heap) (tk c : Nat), SetR w h' s.heap.objs.size (fun j => decide (j ∈ ns)) c → c ≤ ns.length → (∀ b o, s.heap.get? b = some o → h'.get? b = some o) → Q (.ref s.heap.objs.size) { s with heap := h', toks := tk }) :
    wpAny (model P w) A (call (.type "set") [.ref l]) Q E s := by
  have szI : items.size = ns.length := by
    have q := IntsAre.length hit
    rw [Array.length_toList] at q
    exact q
  have ltl : l < s.heap.objs.size := Ev.IsK.lt hl
  have sz1 : (s.heap.push (set0 w)).objs.size = s.heap.objs.size + 1 := Heap.size_push ..
  have gS : ((s.heap.push (set0 w)).push (Ev.obK k l)).get? s.heap.objs.size = some (set0 w) := Heap.get?_push_of_some _ (Heap.get?_push_size _ rfl)
  have gI : ((s.heap.push (set0 w)).push (Ev.obK k l)).get? (s.heap.objs.size + 1) = some (Ev.obK k l) := by
    have q := Heap.get?_push_size (s.heap.push (set0 w)) (o := Ev.obK k l) (by cases k <;> rfl)
    rw [sz1] at q
    exact q
  refine ev_setCall k hl (set_update_ints (walkK k (A := A.in1.in1.in1) (by simp [hh]) (s.heap.objs.size + 1) l (Nat.ne_of_lt (Nat.lt_succ_of_lt ltl)) items).toS s.heap.objs.size (out_fp ltl) ns szI hb (fun i v hv => ?_) (items.size - 0) 0 _ (by omega) (Nat.zero_le _)
    ⟨Ev.ItK.mk gI, (IsK.push (IsK.push hl _) _)⟩ ⟨0, Nat.le_refl 0, setR_new_at gS⟩ fun s' c hm hc hS => ⟨rfl, ?_⟩)
  · have hi : i < ns.length := by rw [← szI]; exact (Array.getElem?_eq_some_iff.mp hv).1
    obtain ⟨t, e⟩ := PyProof.Rows.IntsAre.int_at hit i v (by rw [Array.getElem?_toList]; exact hv)
    refine ⟨ns[i], t, List.getElem?_eq_getElem hi, ?_⟩
    rw [e, List.getD_eq_getElem?_getD, List.getElem?_eq_getElem hi] <;> rfl
  · have key : ∀ b o, s.heap.get? b = some o → s'.heap.get? b = some o := fun b o e => moved_old rfl hm e
    obtain ⟨h', g2, d', tk', os'⟩ := s'
    have eg : g2 = s.gens := hm.gens
    have ed : d' = s.drawn := hm.drawn
    have eo : os' = s.os := hm.os
    subst eg ed eo
    exact h h' tk' c hS (by omega) key
theorem ev_setTups (k : Ev.Kd) {l : Addr} {items : Array Value} (ks : List (Addr × List Int)) {Q : Value → Shared → Prop} (hh : A.handled = none) (hl : Ev.IsK k s.heap l items) (hit : items.toList = ks.map fun p => Value.ref p.1)
    (hk : ∀ p ∈ ks, IsT P w s.heap p.2 p.1) (hfew : ks.length < 64) (hu : A.units + 4 < cLine)
    (h : ∀ (h' : Heap) (tk : Nat) L es ep t, SetTR P w h' s.heap.objs.size L es ep t → Got ks ks.length L → (∀ b o, s.heap.get? b = some o → h'.get? b = some o) → Q (.ref s.heap.objs.size) { s with heap := h', toks := tk }) :
    wpAny (model P w) A (call (.type "set") [.ref l]) Q E s := by
  have szI : items.size = ks.length := by
    have q := congrArg List.length hit
    rw [Array.length_toList, List.length_map] at q
    exact q
  have ltl : l < s.heap.objs.size := Ev.IsK.lt hl
  have sz1 : (s.heap.push (set0 w)).objs.size = s.heap.objs.size + 1 := Heap.size_push ..
  have gS : ((s.heap.push (set0 w)).push (Ev.obK k l)).get? s.heap.objs.size = some (set0 w) := Heap.get?_push_of_some _ (Heap.get?_push_size _ rfl)
  have gI : ((s.heap.push (set0 w)).push (Ev.obK k l)).get? (s.heap.objs.size + 1) = some (Ev.obK k l) := by
    have q := Heap.get?_push_size (s.heap.push (set0 w)) (o := Ev.obK k l) (by cases k <;> rfl)
    rw [sz1] at q
    exact q
  have free : ∀ b, s.heap.objs.size ≤ b → s.heap.get? b = none := fun b hb => by
    cases q : s.heap.get? b with
    | none => rfl
    | some o => exact absurd (Nat.lt_of_lt_of_le (Heap.lt_size q) hb) (Nat.lt_irrefl _)
  refine ev_setCall k hl (set_update_tups (walkK k (A := A.in1.in1.in1) (by simp [hh]) (s.heap.objs.size + 1) l (Nat.ne_of_lt (Nat.lt_succ_of_lt ltl)) items).toS s.heap.objs.size (out_fp ltl) ks szI hfew (fun i v hv => ?_) s.heap hk (free _ (Nat.le_refl _)) (fun b hb => free b (by rw [List.mem_singleton.mp hb]; exact Nat.le_succ _)) (by show A.units + 1 + 1 + 1 < cLine; omega) (items.size - 0) 0 _ (by omega) (Nat.zero_le _)
    ⟨Ev.ItK.mk gI, (IsK.push (IsK.push hl _) _)⟩ (fun b o e => Heap.get?_push_of_some _ (Heap.get?_push_of_some _ e)) ⟨[], _, _, _, setTR_fresh gS, Got.zero ks⟩ fun s' L es ep t hm hS g kp => ⟨rfl, ?_⟩)
  · have q : items.toList[i]? = some v := by rw [Array.getElem?_toList]; exact hv
    rw [hit, List.getElem?_map] at q
    cases z : ks[i]? with
    | none => rw [z] at q; cases q
    | some p =>
      rw [z] at q
      exact ⟨p, rfl, (Option.some.inj q).symm⟩
  · obtain ⟨h', g2, d', tk', os'⟩ := s'
    have eg : g2 = s.gens := hm.gens
    have ed : d' = s.drawn := hm.drawn
    have eo : os' = s.os := hm.os
    subst eg ed eo
    rw [szI] at g
    exact h h' tk' L es ep t hS g kp
theorem perm_map_ex {α β : Type} {f : α → β} {xs ys : List β} (h : xs.Perm ys) : ∀ {L : List α}, xs = L.map f → ∃ L1 : List α, L1.Perm L ∧ ys = L1.map f := by
  induction h with
  | nil => intro L e; exact ⟨L, .refl _, e⟩
  | cons x _ ih =>
    intro L e
    cases L with
    | nil => cases e
    | cons a L =>
      obtain ⟨L1, h1, h2⟩ := ih (L := L) (List.cons.inj e).2
      exact ⟨a :: L1, h1.cons a, by rw [List.map_cons, h2, (List.cons.inj e).1]⟩
  | swap x y l =>
    intro L e
    match L, e with
    | a :: b :: L, e =>
      simp only [List.map_cons, List.cons.injEq] at e
      obtain ⟨rfl, rfl, rfl⟩ := e
      exact ⟨b :: a :: L, .swap _ _ _, rfl⟩
  | trans _ _ ih1 ih2 =>
    intro L e
    obtain ⟨L1, h1, h2⟩ := ih1 e
    obtain ⟨L2, h3, h4⟩ := ih2 h2
    exact ⟨L2, h3.trans h1, h4⟩
theorem reads_ints {h : Heap} : ∀ {vs : List Value} {k : List Int}, IntsAre vs k → ReadsAll h vs (k.map .int) []
  | _, _, .nil => .nil
  | _, _, .cons n t r => ReadsAll.cons (as := []) (bs := []) (.int n t) (reads_ints r)
theorem reads_isT {h : Heap} {k : List Int} {b : Addr} (x : IsT P w h k b) : Reads h (.ref b) (.tuple (k.map .int)) [] := by
  obtain ⟨o, items, n, h1, h2, h3, h4⟩ := x
  exact .tuple h1 h2 h3 (reads_ints (ints_of_items h4))
abbrev rowE (p : Addr × List Int) : PyData := .tuple (p.2.map .int)
theorem alike_ints : ∀ xs ys : List Int, W.alikeAll (xs.map .int) (ys.map .int) = true
  | [], _ => by cases ‹List Int› <;> rfl
  | _ :: _, [] => rfl
  | x :: xs, y :: ys => by
    show (W.alike (.int x) (.int y) && W.alikeAll (xs.map .int) (ys.map .int)) = true
    rw [alike_ints xs ys]
    rfl
theorem depth_ints : ∀ xs : List Int, PyData.depthAll (xs.map .int) = 0
  | [] => rfl
  | x :: xs => by
    simp only [List.map_cons, PyData.depthAll, PyData.depth, depth_ints xs]
    rfl
/-- sorted(the set of tuples): by the data's order -/
theorem ev_sortT {a : Addr} {L : List (Addr × List Int)} {es : Array (Int × Value)} {ep : Nat} {t : SetTable} {Q : Value → Shared → Prop} (R : SetTR P w s.heap a L es ep t) (hh : A.handled = none) (hne : ∀ p ∈ L, p.2 ≠ []) (hu : A.units + 70 < cLine)
    (hQ : ∀ s' p (out : Array Value) (c : Nat) (L1 : List (Addr × List Int)), (∀ b o, s.heap.get? b = some o → s'.heap.get? b = some o) → s'.gens = s.gens → s'.os = s.os → s.heap.objs.size ≤ p →
      s'.heap.get? p = some (seqObj "list" out c) → out.toList = (L1.mergeSort (W.dataLe false rowE)).map (fun q => Value.ref q.1) → L1.Perm L → Q (.ref p) s') :
    wpAny (model P w) A (call (.builtin "sorted") [.ref a]) Q E s := by
  obtain ⟨o, ho, hex, hd⟩ := R.ob
  have few := R.few
  have rsz := R.size
  refine Calls.call_function_entry kind_sorted plain_sorted entry_sorted (args_sorted1 _) ?_
  unfold Builtin.«sorted»
  refine wpAny_bind (m := checkCount "sorted" 1 1 _) (wpAny_pure ?_)
  refine wpAny_bind (collect_set (A := A.in1) hh ⟨o, ho, hex.1, hd⟩ R.fits (by unfold scanBound; omega) R.tab.ris R.led fun s1 vs k1 hz g1 o1 pm => ?_)
  have hes : es.toList.map (·.2) = L.map fun q => Value.ref q.1 := by
    rw [R.rows]
    unfold rowsOf
    rw [List.map_map]
    rfl
  rw [hes] at pm
  obtain ⟨L1, p1, e1⟩ := perm_map_ex pm.symm rfl
  have hl : vs.length = L.length := by rw [e1, List.length_map, p1.length_eq]
  refine wpAny_bind (wpAny_newList ?_ (by rw [sizeLine_eq]; omega))
  have hoL : (s1.heap.push (seqObj "list" vs.toArray 0)).get? s1.heap.objs.size = some (seqObj "list" vs.toArray 0) := Heap.get?_push_size _ rfl
  have mem1 : ∀ q ∈ L1, q ∈ L := fun q hq => p1.mem_iff.mp hq
  have ei : W.EachIs (fun v (q : Addr × List Int) => v = Value.ref q.1) vs L1 := by
    rw [e1]
    clear e1 hoL mem1 p1 hl pm
    induction L1 with
    | nil => exact .nil
    | cons q L1 ih => exact .cons rfl ih
  have er : W.EachIs (fun v (q : Addr × List Int) => ∃ as, Reads (s1.heap.push (seqObj "list" vs.toArray 0)) v (rowE q) as ∧ s1.heap.objs.size ∉ as) vs L1 := (W.each_mem ei).mono fun v q ⟨e, hq⟩ => ⟨[], by
    rw [e]
    exact reads_isT (P := P) (w := w) (isT_keep (R.tup q (mem1 q hq)) fun b u e => Heap.get?_push_of_some _ (k1 b u e)), by simp⟩
  refine wpAny_bind (wpAny_holding (W.list_sort_data (s := { s1 with heap := s1.heap.push (seqObj "list" vs.toArray 0) }) (enc := rowE) hoL ei er (W.AllAlike.of fun p q => alike_ints p.2 q.2) (.inl fun d hd => ?_) (by rw [sizeLine_eq, p1.length_eq]; omega) (fun q hq => ?_) fun out hol eo => ?_))
  · obtain ⟨q, hq, rfl⟩ := List.mem_map.mp hd
    have := hne q (mem1 q hq)
    cases z : q.2 with
    | nil => exact absurd z this
    | cons x r => exact ⟨.int x, r.map .int, by unfold rowE; rw [z]; rfl⟩
  · have : (rowE q).depth = 1 := by
      show PyData.depth (.tuple (q.2.map .int)) = 1
      simp only [PyData.depth, depth_ints]
    show A.units + 1 + 1 + (rowE q).depth < cLine
    omega
  · obtain ⟨c, hc⟩ := sortedHeap_at (vs := vs) (out := out.toArray) hoL
    have eo' : out = (L1.mergeSort (W.dataLe false rowE)).map (fun q => Value.ref q.1) := by
      clear hc hol
      generalize L1.mergeSort (W.dataLe false rowE) = M at eo
      induction eo with
      | nil => rfl
      | cons h _ ih => rw [h, ih]; rfl
    refine wpAny_pure ⟨_, rfl, hQ _ s1.heap.objs.size out.toArray c L1 (fun b u e => ?_) g1 o1 hz hc (by simpa using eo') p1⟩
    have q := k1 b u e
    have lt := Heap.lt_size q
    show (sortedHeap (s1.heap.push (seqObj "list" vs.toArray 0)) s1.heap.objs.size vs out.toArray).get? b = some u
    rw [sortedHeap_old (Nat.ne_of_lt lt) (by rw [size_push']; exact Nat.lt_succ_of_lt lt)]
    exact Heap.get?_push_of_some _ q
end
end L2
end

section
set_option maxRecDepth 100000
set_option maxHeartbeats 4000000
namespace Ev
open PySem PySem.Spec PyProof.Rows L2

/-! ### sorted(set(xs)) -/
def leI (a b : Int) : Bool := decide (a ≤ b)
def leR (a b : List Int) : Bool := decide (a ≤ b)
def sortI (ns : List Int) : List Int := ns.eraseDups.mergeSort leI
def sortR (rs : List (List Int)) : List (List Int) := rs.eraseDups.mergeSort leR
def rowD (r : List Int) : PyData := .tuple (r.map .int)
def asRows : List PyData → Option (List (List Int))
  | [] => some []
  | .tuple xs :: ds => (asInts xs).bind fun r => (asRows ds).map fun rs => r :: rs
  | _ => none
def sortSetD (d : PyData) : Option PyData := (seqOf d).bind fun ds => match asInts ds with
  | some ns => if ns.length < 64 then some (.list ((sortI ns).map .int)) else none
  | none => (asRows ds).bind fun rs => if rs.length < 64 ∧ (rs.all fun r => !r.isEmpty) = true then some (.list ((sortR rs).map rowD)) else none
theorem asRows_eq : ∀ {ds : List PyData} {rs : List (List Int)}, asRows ds = some rs → ds = rs.map rowD
  | [], rs, h => by cases h; rfl
  | d :: ds, rs, h => by
    cases d with
    | tuple xs =>
      have h : ((asInts xs).bind fun r => (asRows ds).map fun rs => r :: rs) = some rs := h
      cases h1 : asInts xs with
      | none => rw [h1] at h; cases h
      | some r =>
        rw [h1] at h
        cases h2 : asRows ds with
        | none => rw [h2] at h; cases h
        | some rs' =>
          rw [h2] at h
          cases h
          rw [asRows_eq h2, asInts_map h1]
          rfl
    | _ => cases h
/-- two ordered lists of the same -/
theorem sorted_one {α : Type} {le : α → α → Bool} (anti : ∀ a b, le a b = true → le b a = true → a = b) : ∀ {xs ys : List α}, xs.Perm ys → xs.Pairwise (fun a b => le a b = true) → ys.Pairwise (fun a b => le a b = true) → xs = ys
  | [], ys, p, _, _ => by rw [p.nil_eq]
  | x :: xs, [], p, _, _ => by cases p.symm.nil_eq
  | x :: xs, y :: ys, p, h1, h2 => by
    have e : x = y := by
      have m1 : x ∈ y :: ys := p.mem_iff.mp List.mem_cons_self
      have m2 : y ∈ x :: xs := p.mem_iff.mpr List.mem_cons_self
      rcases List.mem_cons.mp m1 with e | m1
      · exact e
      · rcases List.mem_cons.mp m2 with e | m2
        · exact e.symm
        · exact anti x y ((List.pairwise_cons.mp h1).1 y m2) ((List.pairwise_cons.mp h2).1 x m1)
    subst e
    rw [sorted_one anti (List.Perm.cons_inv p) (List.pairwise_cons.mp h1).2 (List.pairwise_cons.mp h2).2]
theorem leI_t : ∀ a b c : Int, leI a b = true → leI b c = true → leI a c = true := fun a b c h1 h2 => by simp only [leI, decide_eq_true_eq] at *; omega
theorem leI_o : ∀ a b : Int, (leI a b || leI b a) = true := fun a b => by simp only [leI, Bool.or_eq_true, decide_eq_true_eq]; omega
theorem leI_a : ∀ a b : Int, leI a b = true → leI b a = true → a = b := fun a b h1 h2 => by simp only [leI, decide_eq_true_eq] at *; omega
theorem leR_t : ∀ a b c : List Int, leR a b = true → leR b c = true → leR a c = true := fun a b c h1 h2 => by
  simp only [leR, decide_eq_true_eq] at *
  exact List.le_trans h1 h2
theorem leR_o : ∀ a b : List Int, (leR a b || leR b a) = true := fun a b => by
  simp only [leR, Bool.or_eq_true, decide_eq_true_eq]
  exact List.le_total a b
theorem leR_a : ∀ a b : List Int, leR a b = true → leR b a = true → a = b := fun a b h1 h2 => by
  simp only [leR, decide_eq_true_eq] at *
  exact List.le_antisymm h1 h2
theorem mem_dups {α : Type} [BEq α] [LawfulBEq α] {l : List α} {a : α} : a ∈ l.eraseDups ↔ a ∈ l := List.mem_eraseDups
theorem nodup_dups {α : Type} [BEq α] [LawfulBEq α] : ∀ (n : Nat) {l : List α}, l.length ≤ n → l.eraseDups.Nodup
  | 0, l, h => by
    cases l with
    | nil => simp
    | cons _ _ => simp at h
  | n + 1, l, h => by
    cases l with
    | nil => simp
    | cons a l =>
      rw [List.eraseDups_cons, List.nodup_cons]
      refine ⟨fun m => ?_, nodup_dups n (Nat.le_trans (List.length_filter_le _ _) (by simpa using h))⟩
      have := mem_dups.mp m
      simp at this
theorem sortI_of {ns zs : List Int} (h1 : zs.Pairwise (· < ·)) (h2 : ∀ k, k ∈ zs ↔ k ∈ ns) : zs = sortI ns := by
  refine sorted_one leI_a ?_ (h1.imp fun h => by simp only [leI, decide_eq_true_eq]; omega) (List.pairwise_mergeSort leI_t leI_o _)
  refine List.Perm.trans ?_ (List.mergeSort_perm _ _).symm
  exact (List.perm_ext_iff_of_nodup (h1.imp fun h => by omega) (nodup_dups _ (Nat.le_refl _))).mpr fun k => (h2 k).trans mem_dups.symm
theorem dataLe_rowE {β : Type} (x : β → List Int) : W.dataLe false (fun b => PyData.tuple ((x b).map .int)) = fun p q => leR (x p) (x q) := by
  have h := W.dataLe_rows x
  funext p q
  have h1 := congrFun (congrFun h p) q
  rw [show leR (x p) (x q) = decide (x p ≤ x q) from rfl, ← h1]
  show (!W.dataLt (.tuple ((x q).map .int)) (.tuple ((x p).map .int))) = (!W.dataLt (.list ((x q).map .int)) (.list ((x p).map .int)))
  rw [W.dataLt_list, W.dataLt_tuple]
theorem sortR_of {L L1 : List (Addr × List Int)} {rs : List (List Int)} (p : L1.Perm L) (nd : (L.map (·.2)).Nodup) (h : ∀ r, r ∈ L.map (·.2) ↔ r ∈ rs) : (L1.mergeSort (W.dataLe false L2.rowE)).map (·.2) = sortR rs := by
  rw [show W.dataLe false L2.rowE = fun p q => leR p.2 q.2 from dataLe_rowE (fun p : Addr × List Int => p.2)]
  rw [List.map_mergeSort (r := fun p q : Addr × List Int => leR p.2 q.2) (s := leR) (fun _ _ _ _ => rfl)]
  refine sorted_one leR_a ?_ (List.pairwise_mergeSort leR_t leR_o _) (List.pairwise_mergeSort leR_t leR_o _)
  refine (List.mergeSort_perm _ _).trans (List.Perm.trans ?_ (List.mergeSort_perm _ _).symm)
  refine (p.map _).trans ?_
  exact (List.perm_ext_iff_of_nodup nd (nodup_dups _ (Nat.le_refl _))).mpr fun k => (h k).trans mem_dups.symm
section
variable {X : Cx} {F : Fx} {M : List Nat} {fr : Bool} {a : Expr} {f : DE} {pos p p2 q : Pos}
theorem reps_rows {G : Gd} {L : List Addr} {H : Hp} {A : Addr → Prop} : ∀ {rs : List (List Int)} {vs : List V}, Reps G L H A (rs.map rowD) vs → ∃ ks : List (Addr × List Int), vs = ks.map (fun p => V.ref p.1) ∧ ks.map (·.2) = rs ∧ ∀ p ∈ ks, TuP G.K H p.1 (p.2.map V.int) ∧ p.2.length ≤ sizeLine
  | [], vs, h => by cases h; exact ⟨[], rfl, rfl, fun p hp => by cases hp⟩
  | r :: rs, vs, h => by
    cases h with
    | cons h t =>
      obtain ⟨ks, e1, e2, e3⟩ := reps_rows t
      cases h with
      | @tup a ws _ h1 n1 q1 =>
        have := Reps.ints q1
        subst this
        refine ⟨(a, r) :: ks, by rw [e1]; rfl, by rw [← e2]; rfl, fun p hp => ?_⟩
        rcases List.mem_cons.mp hp with rfl | hp
        · exact ⟨h1, by simpa using n1⟩
        · exact e3 p hp
theorem rep_row {G : Gd} {L : List Addr} {H : Hp} {A : Addr → Prop} {a : Addr} {r : List Int} (h : TuP G.K H a (r.map V.int)) (n : r.length ≤ sizeLine) : Rep G L H A (rowD r) (.ref a) := by
  refine .tup h (by simpa using n) ?_
  clear h n
  induction r with
  | nil => exact .nil
  | cons x r ih => exact .cons (.int x) ih
theorem reps_ints {G : Gd} {L : List Addr} {H : Hp} {A : Addr → Prop} : ∀ ns : List Int, Reps G L H A (ns.map .int) (ns.map V.int)
  | [] => .nil
  | n :: ns => .cons (.int n) (reps_ints ns)
/-- what sorted(set(..)) leaves, by values -/
def kSS (G : Gd) (x : V) (H : Hp) (Q : VK) : Prop := ∃ L A d w, Rep G L H A d x ∧ sortSetD d = some w ∧ ∀ v H', Same H H' → Rep G L H' (fun b => A b ∨ H b = none) w v → Fresh G L H H' (fun b => A b ∨ H b = none) true w v → Q v H'
theorem fewBound {n : Nat} (h : n < 64) : n + 1 < scanBound := by unfold scanBound; omega
theorem run_SS {G : Gd} {E : Value → Shared → Prop} {pins : List (Addr × Obj)} {σ : L2.St} {H : Hp} {s : Shared} {x : V} {v : Value} {Q : VK} (hK : G.K = X.K) (hc : X.calm = true) (hu : X.A.units + 80 < cLine) (I : Inv X pins σ H s) (rx : RelV x v) (h : kSS G x H Q) :
    wpAny (model X.prog X.w) X.A (call (.type "set") [v]) (fun u s1 => wpAny (model X.prog X.w) X.A (call (.builtin "sorted") [u]) (EP X pins σ Q) E s1) E s := by
  obtain ⟨L, A, d, w, r, hw, k⟩ := h
  unfold sortSetD at hw
  cases q : seqOf d with
  | none => rw [q] at hw; cases hw
  | some ds =>
    rw [q] at hw
    obtain ⟨kd, a, vs, rfl, kw⟩ := seq_rep r q
    cases rx
    obtain ⟨its, rv, hi, hz⟩ := I.seqK (by rw [← hK]; exact kw.sq)
    have hh := I.ok.hd hc
    have fin : ∀ {s1 : Shared} {p : Addr} {out : Array Value} {c : Nat} {zs : List PyData} {ws : List V}, s1.gens = s.gens → s1.os = s.os → (∀ b o, s.heap.get? b = some o → s1.heap.get? b = some o) → s.heap.objs.size ≤ p → s1.heap.get? p = some (seqObj "list" out c) →
        w = .list zs → Vals ws out.toList → Reps G L H A zs ws → ws.length ≤ sizeLine → EP X pins σ Q (.ref p) s1 := fun {s1 p out c zs ws} eg eo kp hp hg ew hv hr hl => by
      have hn : H p = none := I.hok.fresh hp
      subst ew
      have J : Inv X pins σ (upd H p (.lst ws)) { s with heap := s1.heap, gens := s1.gens, drawn := s1.drawn, toks := s1.toks } :=
        I.call (ch := []) (Un.laid kp hp hn) (I.hok.laid kp hp ⟨hl, out.toList, c, hv, hg⟩) (by rw [eg]; exact I.bare) (fun _ z => nomatch z)
      obtain ⟨hp1, g1, d1, t1, o1⟩ := s1
      obtain rfl : o1 = s.os := eo
      exact ⟨.ref p, _, J, rfl, k_lst k hn hl hr⟩
    have hw : (match asInts ds with
      | some ns => if ns.length < 64 then some (PyData.list ((sortI ns).map .int)) else none
      | none => (asRows ds).bind fun rs => if rs.length < 64 ∧ (rs.all fun r => !r.isEmpty) = true then some (PyData.list ((sortR rs).map rowD)) else none) = some w := hw
    cases qi : asInts ds with
    | some ns =>
      rw [qi] at hw
      have hw : (if ns.length < 64 then some (PyData.list ((sortI ns).map .int)) else none) = some w := hw
      split at hw
      · rename_i few
        cases hw
        have ed := asInts_map qi
        subst ed
        have ev := Reps.ints kw.2
        subst ev
        refine ev_setInts kd ns hh hi (by simpa using rv.ints) (fewBound few) fun h' tk c R hc' kp => ?_
        refine L2.sorted_set R hh (by omega) fun s1 p out c2 zs kp1 eg eo hp hg hz2 pw mem _ => ?_
        have ez : zs = sortI ns := sortI_of pw fun j => by rw [mem j]; simp
        subst ez
        have hlz : (sortI ns).length ≤ ns.length := by
          have l1 : (sortI ns).length = ns.eraseDups.length := List.length_mergeSort _
          have l2 : ns.eraseDups.length ≤ ns.length := List.Nodup.length_le_of_subset (nodup_dups _ (Nat.le_refl _)) fun z hz => mem_dups.mp hz
          omega
        refine fin eg eo (fun b o e => kp1 b o (kp b o e)) (Nat.le_trans (Nat.le_of_lt (R.lt)) hp) hg rfl (vals_of_ints hz2) (reps_ints _) (by rw [List.length_map, sizeLine_eq]; omega)
      · cases hw
    | none =>
      rw [qi] at hw
      have hw : ((asRows ds).bind fun rs => if rs.length < 64 ∧ (rs.all fun r => !r.isEmpty) = true then some (PyData.list ((sortR rs).map rowD)) else none) = some w := hw
      cases qr : asRows ds with
      | none => rw [qr] at hw; cases hw
      | some rs =>
        rw [qr] at hw
        have hw : (if rs.length < 64 ∧ (rs.all fun r => !r.isEmpty) = true then some (PyData.list ((sortR rs).map rowD)) else none) = some w := hw
        split at hw
        · rename_i few
          cases hw
          have ed := asRows_eq qr
          subst ed
          obtain ⟨ks, e1, e2, e3⟩ := reps_rows kw.2
          subst e1
          have isT : ∀ p ∈ ks, IsT X.prog X.w s.heap p.2 p.1 := fun p hp => I.isT (by rw [← hK]; exact (e3 p hp).1.sq)
          have hl2 : ks.length < 64 := by rw [← List.length_map (f := (·.2)), e2]; exact few.1
          refine ev_setTups kd ks hh hi (by simpa using refs_of_vals rv) isT hl2 (by omega) fun h' tk L0 es ep t R g kp => ?_
          have sub : ∀ p ∈ L0, p ∈ ks := fun p hp => List.mem_of_mem_take (g.sub p hp)
          have all : ∀ p ∈ ks, p.2 ∈ L0.map (·.2) := fun p hp => g.all p (by rw [List.take_length]; exact hp)
          have lt0 : s.heap.objs.size < h'.objs.size := by
            obtain ⟨o, ho, _⟩ := R.ob
            exact Heap.lt_size ho
          refine L2.ev_sortT R hh (fun p hp => ?_) (by omega) fun s1 pz out c2 L1 kp1 eg eo hp hg eout pm => ?_
          · have m : p.2 ∈ rs := by rw [← e2]; exact List.mem_map.mpr ⟨p, sub p hp, rfl⟩
            have := List.all_eq_true.mp few.2 _ m
            intro z
            rw [z] at this
            cases this
          · have es : (L1.mergeSort (W.dataLe false L2.rowE)).map (·.2) = sortR rs := sortR_of pm R.nd fun r => by
              rw [← e2]
              refine ⟨fun m => ?_, fun m => ?_⟩
              · obtain ⟨p, hp, rfl⟩ := List.mem_map.mp m
                exact List.mem_map.mpr ⟨p, sub p hp, rfl⟩
              · obtain ⟨p, hp, rfl⟩ := List.mem_map.mp m
                exact all p hp
            have hlen : (L1.mergeSort (W.dataLe false L2.rowE)).length = L0.length := by rw [List.length_mergeSort, pm.length_eq]
            have few0 := R.few
            refine fin eg eo (fun b o e => kp1 b o (kp b o e)) (Nat.le_trans (Nat.le_of_lt lt0) hp) hg (by rw [← es]) (by rw [eout]; exact vals_of_refs _) ?_ (by rw [List.length_map, hlen, sizeLine_eq]; omega)
            have mem : ∀ z ∈ L1.mergeSort (W.dataLe false L2.rowE), z ∈ ks := fun z hz => sub z (pm.mem_iff.mp ((List.mergeSort_perm _ _).mem_iff.mp hz))
            generalize L1.mergeSort (W.dataLe false L2.rowE) = M at mem
            clear es eout hlen
            induction M with
            | nil => exact .nil
            | cons z M ih =>
              refine .cons (rep_row (e3 z (mem z List.mem_cons_self)).1 (e3 z (mem z List.mem_cons_self)).2) (ih fun y hy => mem y (List.mem_cons_of_mem _ hy))
        · cases hw
theorem pe_sortSetD (hK : F.G.K = X.K) (hc : X.calm = true) (hu : X.A.units + 80 < cLine) (hg : Gl X "sorted") (hm : X.mg "sorted" = none) (hg2 : Gl X "set") (hm2 : X.mg "set" = none) (ha : PE X a (tD F M fr f))
    (na : starEach [a] X.env = (false, eval a X.env) :: starEach [] X.env := by rfl) : PE X (.Call (.Name "sorted" p) [.Call (.Name "set" p2) [a] [] q] [] pos) (tD F M true (eUn sortSetD f)) := by
  refine ⟨fun pins s σ H Q I ⟨L, AL, ρ, st, R, h⟩ => Call_ (ld_blt I hg hm PyProof.Rows.boot_sorted (PyProof.Rows.callWith_builtin1 (PyProof.Rows.args_cons (Call_ (ld_blt I hg2 hm2 PyProof.Rows.boot_set (PyProof.Rows.callWith_type1 (PyProof.Rows.args_cons (thn (ha.run pins s σ H _ I (tD_bind (P := DPost F L AL ρ σ H M true Q) (Q1 := fun v H1 => kSS F.G v H1 Q) R h (fun x st' h => h) (fun h => h) fun d st1 v H1 R1 E1 rd _ h => ?_)) fun v s1 ⟨x, H1, I1, r1, q1⟩ => PyProof.Rows.args_nil ?_) na) na rfl))) rfl) rfl rfl))⟩
  · have h : DPost F L AL ρ σ H M true Q (.of (sortSetD d) st1) := h
    cases q : sortSetD d with
    | none => rw [q] at h; exact h.elim
    | some w =>
      rw [q] at h
      have up : ∀ b, (AP (L ++ F.Z) ρ σ M H b ∨ H1 b = none) → AP (L ++ F.Z) ρ σ M H b := fun b k => k.elim id fun z => ⟨R1.notZ z, .inl (E1.free z)⟩
      refine ⟨L, _, d, w, rd, q, fun v' H' sm rp fre => h v' H' (R1.same sm) (E1.trans (.of_same sm)) (rp.imp fun b k _ => up b k) fun h1 h2 => ?_⟩
      obtain ⟨a, o, e1, e2, e3, e4⟩ := fre h1 h2
      exact ⟨a, o, e1, E1.free e2, e3, e4.imp fun b k _ => ⟨up b k.1, k.2⟩⟩
  · exact wpAny_mono (run_SS hK hc hu I1 r1 q1) (fun u s2 h2 => PyProof.Rows.args_nil h2) fun _ _ e => e
end
end Ev
namespace Ev
open PySem PySem.Spec PyProof.Rows L2
theorem pe_dict0D {X : Cx} {F : Fx} {pos : Pos} : PE X (.Dict [] [] pos) (tD F [] true (eC (.dict []))) := pe_dnewK.imp fun σ H Q ⟨L, AL, ρ, st, R, h⟩ => fun q hq =>
  h _ _ (R.same (same_upd hq)) (.of_same (same_upd hq)) (.dic upd_same ⟨R.notZ hq, .inl hq⟩ (Nat.zero_le _) .nil) fun _ _ => ⟨q, _, rfl, hq, upd_same, .dK (Nat.zero_le _) .nil⟩
end Ev
end

section
set_option maxRecDepth 100000
set_option maxHeartbeats 4000000
namespace Ev
open PySem PySem.Spec PyProof.Rows L2

/-! ### the law itself: its first list becomes a cell of the store -/
def sHand (g : DS) (i : Nat) (k : DS) : DS := fun ρ st => match g ρ st with
  | .nx ρ1 st1 => match (ρ1[i]? : Option Slot) with
    | some (some (.list ds, true)) => k (ρ1.set i (some (loc st1.length, false))) (st1 ++ [ds])
    | _ => .stuck
  | r => r
section
variable {F : Fx} {L : List Addr} {AL : Addr → Prop} {ρ : EnvD} {st : Store} {σ : L2.St} {H : Hp}
theorem Rep.moreL {G : Gd} {L L' : List Addr} {H : Hp} {A : Addr → Prop} (h : ∀ (i : Nat) (a : Addr), L[i]? = some a → (L ++ L')[i]? = some a) : ∀ {d : PyData} {v : V}, Rep G L H A d v → Rep G (L ++ L') H A d v := by
  intro d v r
  exact Rep.rec (motive_1 := fun d v _ => Rep G (L ++ L') H A d v) (motive_2 := fun ds vs _ => Reps G (L ++ L') H A ds vs) (motive_3 := fun ds vs _ => RepK G (L ++ L') H A ds vs) (motive_4 := fun ds vs _ => RepT G (L ++ L') H A ds vs)
    .non .bl .int .str (fun h n _ ih => .tup h n ih) (fun h n _ ih => .lst h n ih) (fun h _ ih => .lea h ih) .fn (fun e => .loc (h _ _ e)) (fun h n _ ih => .frz h n ih) .raw (fun h z n _ ih => .dic h z n ih) (fun h z n o _ ih => .dit h z n o ih) .nil (fun _ _ i1 i2 => .cons i1 i2) .nil (fun _ _ i1 i2 => .cons i1 i2) .nil (fun t n _ _ i1 i2 => .cons t n i1 i2) r
theorem Reps.moreL {G : Gd} {L L' : List Addr} {H : Hp} {A : Addr → Prop} (h : ∀ (i : Nat) (a : Addr), L[i]? = some a → (L ++ L')[i]? = some a) : ∀ {ds : List PyData} {vs : List V}, Reps G L H A ds vs → Reps G (L ++ L') H A ds vs
  | _, _, .nil => .nil
  | _, _, .cons r t => .cons (r.moreL h) (Reps.moreL h t)
theorem RepK.moreL {G : Gd} {L L' : List Addr} {H : Hp} {A : Addr → Prop} (h : ∀ (i : Nat) (a : Addr), L[i]? = some a → (L ++ L')[i]? = some a) : ∀ {ds : List (PyData × PyData)} {vs : List (Key × V)}, RepK G L H A ds vs → RepK G (L ++ L') H A ds vs
  | _, _, .nil => .nil
  | _, _, .cons r t => .cons (r.moreL h) (RepK.moreL h t)
theorem RepT.moreL {G : Gd} {L L' : List Addr} {H : Hp} {A : Addr → Prop} (h : ∀ (i : Nat) (a : Addr), L[i]? = some a → (L ++ L')[i]? = some a) : ∀ {ds : List (PyData × PyData)} {vs : List (List Int × Addr × V)}, RepT G L H A ds vs → RepT G (L ++ L') H A ds vs
  | _, _, .nil => .nil
  | _, _, .cons t n r u => .cons t n (r.moreL h) (RepT.moreL h u)
theorem MutRep.moreL {G : Gd} {L L' : List Addr} {H : Hp} {A : Addr → Prop} (h : ∀ (i : Nat) (a : Addr), L[i]? = some a → (L ++ L')[i]? = some a) {d : PyData} {o : HO} {a : Addr} (r : MutRep G L H A a d o) : MutRep G (L ++ L') H A a d o := by
  cases r with
  | lst n r => exact .lst n (r.moreL h)
  | dK n r => exact .dK n (r.moreL h)
  | dT n o r => exact .dT n o (r.moreL h)
theorem Rel.hand (R : Rel F L AL ρ st σ H) (hZ : F.Z = []) {i : Nat} {ds : List PyData} (hi : ρ[i]? = some (some (.list ds, true))) : ∃ L' AL', Rel F L' AL' (ρ.set i (some (loc st.length, false))) (st ++ [ds]) σ H := by
  obtain ⟨a, o, s1, h1, m, n1, n2⟩ := R.own i _ hi
  cases m with
  | @lst vs _ hl rs =>
    have mono : ∀ (j : Nat) b, L[j]? = some b → (L ++ [a])[j]? = some b := fun j b e => by
      rw [List.getElem?_append_left (List.getElem?_eq_some_iff.mp e).1]
      exact e
    have hil : i < ρ.length := (List.getElem?_eq_some_iff.mp hi).1
    have hog : ∀ {j : Nat} {b : Addr}, OwnAt (ρ.set i (some (loc st.length, false))) σ j b → OwnAt ρ σ j b ∧ j ≠ i := fun {j b} ⟨⟨d, e1⟩, e2⟩ => by
      by_cases q : i = j
      · subst q
        rw [List.getElem?_set_self hil] at e1
        cases e1
      · rw [List.getElem?_set_ne q] at e1
        exact ⟨⟨⟨d, e1⟩, e2⟩, Ne.symm q⟩
    have na : a ∉ L := notApp n1
    have nu : ∀ b, NU (L ++ F.Z) ρ σ b → NU ((L ++ [a]) ++ F.Z) (ρ.set i (some (loc st.length, false))) σ b := fun b k => by
      refine ⟨?_, fun j hj => k.2 j (hog hj).1⟩
      rw [hZ, List.append_nil]
      have k1 := notApp k.1
      simp only [List.mem_append, List.mem_singleton, not_or]
      exact ⟨k1, fun z => k.2 i ⟨⟨_, hi⟩, by rw [z]; exact s1⟩⟩
    refine ⟨L ++ [a], fun b => NU (L ++ F.Z) ρ σ b ∧ H b ≠ none, by rw [List.length_set]; exact R.len, fun j d e => ?_, fun j d e => ?_, fun j k b e1 e2 => R.ne j k b (hog e1).1 (hog e2).1, ⟨fun b o e n t => R.ext.keep b o e (fun z => n (List.mem_append_left _ z)) t, R.ext.dom⟩, ?_, ?_, by simp [R.ll], fun j b ds' e1 e2 => ?_, fun b k => ⟨(nu b k.1).1, (nu b k.1).2⟩, fun b k => k.2, R.tab, R.zt, by rw [List.length_set]; exact R.nn⟩
    · by_cases q : i = j
      · subst q
        rw [List.getElem?_set_self hil] at e
        cases e
        exact ⟨.ref a, s1, .loc (by rw [← R.ll]; simp)⟩
      · rw [List.getElem?_set_ne q] at e
        obtain ⟨v, e1, e2⟩ := R.val j d e
        exact ⟨v, e1, (e2.imp fun b k _ => nu b k).moreL mono⟩
    · by_cases q : i = j
      · subst q
        rw [List.getElem?_set_self hil] at e
        cases e
      · rw [List.getElem?_set_ne q] at e
        obtain ⟨a2, o2, e1, e2, e3, e4, e5⟩ := R.own j d e
        refine ⟨a2, o2, e1, e2, (e3.imp fun b k _ => nu b k).moreL mono, ?_, e5⟩
        rw [hZ, List.append_nil]
        have k1 := notApp e4
        simp only [List.mem_append, List.mem_singleton, not_or]
        refine ⟨k1, fun z => q (R.ne i j a ⟨⟨_, hi⟩, s1⟩ ⟨⟨d, e⟩, by rw [← z]; exact e1⟩)⟩
    · obtain ⟨nw, e1, e2⟩ := R.lx
      refine ⟨nw ++ [a], by rw [e1, List.append_assoc], fun b hb => ?_⟩
      rcases List.mem_append.mp hb with hb | hb
      · exact e2 b hb
      · rw [List.mem_singleton.mp hb]; exact n2
    · rw [List.nodup_append]
      refine ⟨R.lnd, by simp, fun x hx y hy e => na ?_⟩
      rw [← List.mem_singleton.mp hy, ← e]
      exact hx
    · by_cases q : j < L.length
      · rw [List.getElem?_append_left q] at e1
        rw [List.getElem?_append_left (by rw [← R.ll]; exact q)] at e2
        obtain ⟨ws, f1, f2, f3⟩ := R.cell j b ds' e1 e2
        exact ⟨ws, f1, f2, (f3.imp fun c k z => ⟨⟨(R.al c k).1, (R.al c k).2⟩, z⟩).moreL mono⟩
      · have ej : j = L.length := by
          have := (List.getElem?_eq_some_iff.mp e1).1
          simp at this
          omega
        subst ej
        simp at e1
        rw [R.ll] at e2
        simp at e2
        subst e1 e2
        exact ⟨vs, h1, hl, (rs.imp fun c k z => ⟨k, z⟩).moreL mono⟩
end
section
variable {X : Cx} {F : Fx} {s0 : Stmt} {ss : List Stmt} {g k : DS} {i : Nat}
theorem pss_handD (hZ : F.Z = []) (h0 : PS X s0 (tS F g)) (h : PSs X ss (tS F k)) : PSs X (s0 :: ss) (fun D σ H => ∃ L AL ρ st, Rel F L AL ρ st σ H ∧ (∃ f st', sHand g i k ρ st = .ret (.bool true) f st') ∧ ∀ H', D.rt (.bl true) H') :=
  (pss_cons h0 h).imp fun D σ H ⟨L, AL, ρ, st, R, ⟨f, st', e⟩, hD⟩ => by
    refine ⟨L, AL, ρ, st, R, ?_⟩
    unfold sHand at e
    cases q : g ρ st with
    | nx ρ1 st1 =>
      rw [q] at e
      intro σ1 H1 R1 fm
      simp only at e
      split at e
      · rename_i ds hi
        obtain ⟨L', AL', R2⟩ := R1.hand hZ hi
        refine ⟨L', AL', _, _, R2, ?_⟩
        rw [e]
        intro ρ' σ' v H' R3 rp _
        cases rp
        exact hD H'
      · cases e
    | brk _ _ => rw [q] at e; cases e
    | ct _ _ => rw [q] at e; cases e
    | exn _ _ => rw [q] at e; cases e
    | stuck => rw [q] at e; cases e
    | ret d f1 st1 =>
      rw [q] at e
      simp only [SR.ret.injEq] at e
      obtain ⟨rfl, _, _⟩ := e
      intro ρ' σ' v H' R3 rp _
      cases rp
      exact hD H'
end
/-- the law's promise -/
def spLaw (K : PySem.W.Frag) (T : List (Addr × Str)) : Sp := fun vs H Q _ => ∃ (a : Addr) (ns : List Int), vs = [.ref a] ∧ SqL K H a (ns.map V.int) ∧ LamX.Tabs T H ∧ ns.length ≤ 63 ∧ (∀ z ∈ ns, Builtin.Int.intBits z ≤ 1048576) ∧ ∀ H', Q (.bl true) H'
section
variable {P : Program} {w : World} {K : PySem.W.Frag} {mg : Str → Option Value} {base : Heap} {x qual : Str} {params : Arguments} {s0 : Stmt} {ss body : List Stmt} {scope : Scope} {f : Addr} {fd : FuncData}
theorem okLaw {G : Gd} {xc : Nat → Addr} {T : List (Addr × Str)} {N ps : List Str} {k i : Nat} {g kk : DS} (hK : G.K = K) (F : FunD K x qual params body scope [] [] f fd) (S : FnScope N ps scope) (hps : ps.length = 1) (hle : 1 ≤ N.length)
    (hm : ∀ ns : List Int, ns.length ≤ 63 → (∀ z ∈ ns, Builtin.Int.intBits z ≤ 1048576) → ∃ fl st, sHand g i kk (some (frzl (ns.map .int), false) :: List.replicate (N.length - 1) none) [] = .ret (.bool true) fl st)
    (hb : ∀ (cdv : Value) (A : Around) (outer : List Env) (s : Shared) (H : Hp) (E : XK) (L Z : List Addr), Z = [] → Room k (A.deeper (envOfC qual scope s.heap.objs.size f cdv)) →
      PSs (cxOf (L2.CX P w) P w K mg base N qual scope f cdv A outer s H E) body (fun D σ H' => ∃ L1 AL ρ st, Rel ⟨G, xc, H, L, T, E, Z, N.length⟩ L1 AL ρ st σ H' ∧ (∃ f st', sHand g i kk ρ st = .ret (.bool true) f st') ∧ ∀ H', D.rt (.bl true) H')) :
    FnOk P w K mg base (L2.CX P w) (k + 1) f fd ps (spLaw K T) := by
  refine F.ok S (fun vs H Q E ⟨a, ns, e, _⟩ => by rw [e, hps]; rfl) fun cdv A outer s H vs Q E hr ⟨a, ns, e, hq, tb, h1, h2, hQ⟩ => ?_
  subst e
  have gd : Gnd G T [] [] (fun _ => False) [] H := ⟨List.nodup_nil, rfl, fun i a ds e => by simp at e, fun b k => k.elim, fun b k => k.elim, tb, fun b k => by cases k⟩
  have r : Reps G [] H (fun b => b ∉ ([] : List Addr) ++ []) [frzl (ns.map .int)] [.ref a] := .cons (.frz ((SqF.of (by rw [hK]; exact hq)).imp fun b _ _ => by simp) (by rw [List.length_map, sizeLine_eq]; omega) (reps_ints ns)) .nil
  exact ⟨_, hb cdv A outer s H E [] [] rfl hr, [], _, _, [], rel0 gd r (by simpa using hle), hm ns h1 h2, hQ⟩
end
end Ev
end

section
set_option maxRecDepth 100000
set_option maxHeartbeats 4000000
namespace Ev
open PySem PySem.Spec PyProof.Rows L2 He

/-! ### what the head looks at beyond the kit's facts -/
def leaB (K : PySem.W.Frag) (C : Addr) : Bool :=
  eqO (PySem.W.findIn K (.ref C) "__class__") (some (some (.builtin "object.__class__"))) && (eqO (PySem.W.specialIn K (.builtin "object.__class__") "__get__") (some (some (.builtin "getset_descriptor.__get__"))) && (decide (PySem.W.takesIn K (.builtin "object.__class__") = some true) && (decide (PySem.W.mroIn K C (.type "object") = some true) &&
  (decide (PySem.W.kitOne K (.ref C) (.ref C) = some true) && ((["int", "bool", "tuple", "str", "list", "dict"] : List String).all fun n => decide (PySem.W.kitOne K (.ref C) (.type n) = some false)) && (["NoneType", "int", "bool", "tuple", "str", "list", "dict"] : List String).all fun n => decide (PySem.W.kitOne K (.type n) (.ref C) = some false)))))
theorem leaB_ok {K : PySem.W.Frag} {C : Addr} (c : Cls K C) (nt : NoAttr K C "teams") (ng : NoAttr K C "games") (h : leaB K C = true) : LeaOk K C := by
  obtain ⟨h1, h⟩ := ba h
  obtain ⟨h2, h⟩ := ba h
  obtain ⟨h3, h⟩ := ba h
  obtain ⟨h4, h⟩ := ba h
  obtain ⟨h5, h7⟩ := ba h
  obtain ⟨h5, h6⟩ := ba h5
  refine ⟨c, eqO_ok h1, eqO_ok h2, of_decide_eq_true h3, of_decide_eq_true h4, nt, ng, fun n hn => ?_, fun n hn => ?_, of_decide_eq_true h5⟩
  · exact of_decide_eq_true (List.all_eq_true.mp h6 n (by rcases hn with h | h | h | h | h | h <;> subst h <;> simp))
  · exact of_decide_eq_true (List.all_eq_true.mp h7 n (by rcases hn with h | h | h | h | h | h | h <;> subst h <;> simp))
def excB (K : PySem.W.Frag) (D : Addr) : Bool :=
  eqO (PySem.W.findIn K (.ref D) "__getattribute__") (some (some (.builtin "BaseException.__getattribute__"))) && (eqO (PySem.W.findIn K (.ref D) "__getattr__") (some none) && (decide (PySem.W.subIn K (.ref D) (.type "BaseException") = some true) && (PySem.W.hasDictIn K D && (eqO (PySem.W.findIn K (.ref D) "__class__") (some (some (.builtin "object.__class__"))) &&
  (eqO (PySem.W.specialIn K (.builtin "object.__class__") "__get__") (some (some (.builtin "getset_descriptor.__get__"))) && (decide (PySem.W.takesIn K (.builtin "object.__class__") = some true) && decide (PySem.W.mroIn K D (.type "object") = some true)))))))
theorem excB_ok {K : PySem.W.Frag} {D : Addr} (h : excB K D = true) : ExcC K D := by
  obtain ⟨h1, h⟩ := ba h
  obtain ⟨h2, h⟩ := ba h
  obtain ⟨h3, h⟩ := ba h
  obtain ⟨h4, h⟩ := ba h
  obtain ⟨h5, h⟩ := ba h
  obtain ⟨h6, h⟩ := ba h
  obtain ⟨h7, h8⟩ := ba h
  exact ⟨eqO_ok h1, eqO_ok h2, of_decide_eq_true h3, h4, eqO_ok h5, eqO_ok h6, of_decide_eq_true h7, of_decide_eq_true h8⟩
/-- classes by their names -/
def xcOf (K : PySem.W.Frag) (xn : Nat → Str) (i : Nat) : Addr := ga K (xn i)
def exB (K : PySem.W.Frag) (xn : Nat → Str) (exl : List Nat) (gf : Nat) : Bool :=
  exl.all fun i => excB K (xcOf K xn i) && (decide (PySem.W.kitOne K (.ref (xcOf K xn i)) (.type "ValueError") = some true) && (decide (PySem.W.exmOne K (.ref (xcOf K xn i)) (.ref (xcOf K xn gf)) = some true) && exl.all fun j => decide (PySem.W.kitOne K (.ref (xcOf K xn i)) (.ref (xcOf K xn j)) = some (i == j))))
theorem exB_ok {K : PySem.W.Frag} {xn : Nat → Str} {exl : List Nat} {gf : Nat} (h : exB K xn exl gf = true) : ExOk K (xcOf K xn) exl gf := by
  have q := fun i hi => ba (List.all_eq_true.mp h i hi)
  refine ⟨fun i hi => excB_ok (q i hi).1, fun i j hi hj => ?_, fun i hi => of_decide_eq_true (ba (q i hi).2).1, fun i hi => of_decide_eq_true (ba (ba (q i hi).2).2).1⟩
  exact of_decide_eq_true (List.all_eq_true.mp (ba (ba (q i hi).2).2).2 j hj)
/-- a def's function data -/
def fdOf (K : PySem.W.Frag) (fd0 : FuncData) (f : Addr) : FuncData := match K.lookup f with
  | some ⟨_, _, .func fd, _⟩ => fd
  | _ => fd0
theorem fdOf_eq {K : PySem.W.Frag} {x qual : Str} {params : Arguments} {body : List Stmt} {scope : Scope} {dvs : List V} {kws : List (Str × V)} {f : Addr} {fd fd0 : FuncData} (F : FunD K x qual params body scope dvs kws f fd) : FunD K x qual params body scope dvs kws f (fdOf K fd0 f) := by
  obtain ⟨oc, od, dV, kV, doc, pm, an, cdv, ct, osl, e, lk, _⟩ := F.ex
  have e2 : fdOf K fd0 f = fd := by
    unfold fdOf
    rw [lk]
  rw [e2]
  exact F
theorem codeAt_of {K : PySem.W.Frag} {p : Str × Option Str} {x qual : Str} {params : Arguments} {body : List Stmt} {scope : Scope} {dvs : List V} {kws : List (Str × V)} {fd : FuncData} (F : FunD K x qual params body scope dvs kws (fAd K p) fd) : CodeAt K (fAd K p) (codeOf K p) := by
  intro oc od fd2 osl lk
  obtain ⟨oc1, od1, dV, kV, doc, pm, an, cdv, ct, osl1, e, lk1, hc, _⟩ := F.ex
  rw [lk] at lk1
  have e2 : fd2 = fd := by
    injection lk1 with z
    injection z with z1 z2 z3 z4
    injection z3
  obtain ⟨c, ec⟩ := codeIn_ref hc
  have e3 : fd2.code = .ref c := by
    rw [e2, e]
    exact ec
  rw [e3, codeOf_eq lk e3]
theorem tabs_of {T : List (Addr × Str)} {cs : List (Addr × Addr)} {H : Hp} (hc : ∀ p ∈ T, ∃ q ∈ cs, q.2 = p.1) (h : ∀ q ∈ cs, H q.2 = some (.tbl #[])) : LamX.Tabs T H := fun p hp => by
  obtain ⟨q, hq, e⟩ := hc p hp
  exact LamX.TabS.nil (by rw [← e]; exact h q hq)
end Ev
end

section
set_option maxRecDepth 100000
set_option maxHeartbeats 400000
namespace Ev
open PySem PySem.Spec PyProof.Rows L2

/-! ### mirrors reckoned: plain laws of the combinators -/
section
variable {ρ : EnvD} {st : Store}
theorem bd_yes {c : DB} {e : DE} {y : PyData} {rs : List PyData} (h1 : c ρ st = .ok true st) (h2 : e ρ st = .ok y st) (h3 : rs.length < sizeLine) : bdLast c e ρ st rs = .ok (rs ++ [y]) st := by
  simp [bdLast, h1, h2, noX, h3]
theorem bd_no {c : DB} {e : DE} {rs : List PyData} (h1 : c ρ st = .ok false st) : bdLast c e ρ st rs = .ok rs st := by
  simp [bdLast, h1, noX]
theorem lcGo_pure {g : DG} {c : DB} {e : DE} {p : PyData → Bool} {f : PyData → PyData} {r1 : PyData → EnvD} : ∀ (ds rs : List PyData), (∀ d ∈ ds, g d ρ = some (r1 d)) → (∀ d ∈ ds, c (r1 d) st = .ok (p d) st) → (∀ d ∈ ds, p d = true → e (r1 d) st = .ok (f d) st) → rs.length + ds.length ≤ sizeLine →
    lcGo g ρ (bdLast c e) ds st rs = .ok (rs ++ (ds.filter p).map f) st
  | [], rs, _, _, _, _ => by simp [lcGo]
  | d :: ds, rs, hg, hc, he, hl => by
    have hd : d ∈ d :: ds := List.mem_cons_self
    have hc' := hc d hd
    rw [lcGo, hg d hd]
    rw [List.length_cons] at hl
    rw [ER.of_some, ER.bind_ok]
    by_cases hp : p d = true
    · rw [hp] at hc'
      rw [bd_yes hc' (he d hd hp) (by omega), ER.bind_ok, lcGo_pure ds (rs ++ [f d]) (fun x hx => hg x (List.mem_cons_of_mem _ hx)) (fun x hx => hc x (List.mem_cons_of_mem _ hx)) (fun x hx => he x (List.mem_cons_of_mem _ hx)) (by rw [List.length_append, List.length_singleton]; omega)]
      rw [List.filter_cons_of_pos hp, List.map_cons, List.append_assoc, List.singleton_append]
    · rw [Bool.not_eq_true] at hp
      rw [hp] at hc'
      rw [bd_no hc', ER.bind_ok, lcGo_pure ds rs (fun x hx => hg x (List.mem_cons_of_mem _ hx)) (fun x hx => hc x (List.mem_cons_of_mem _ hx)) (fun x hx => he x (List.mem_cons_of_mem _ hx)) (by omega)]
      rw [List.filter_cons_of_neg (by rw [hp]; exact Bool.false_ne_true)]
/-- a comprehension with a condition -/
theorem eLc_if {i : DI} {own : List Nat} {g : DG} {c : DB} {e : DE} {ds : List PyData} (p : PyData → Bool) (f : PyData → PyData) (r1 : PyData → EnvD) (hi : i ρ st = .ok ds st) (hg : ∀ d ∈ ds, g d (frzE own ρ) = some (r1 d)) (hc : ∀ d ∈ ds, c (r1 d) st = .ok (p d) st)
    (he : ∀ d ∈ ds, p d = true → e (r1 d) st = .ok (f d) st) (hl : ds.length ≤ sizeLine) : eLc i own g (bdLast c e) ρ st = .ok (.list ((ds.filter p).map f)) st := by
  unfold eLc
  rw [hi]
  simp only [ER.bind_ok]
  rw [lcGo_pure ds [] hg hc he (by simpa using hl)]
  simp [noX]
/-- .. without one -/
theorem eLc_all {i : DI} {own : List Nat} {g : DG} {e : DE} {ds : List PyData} (f : PyData → PyData) (r1 : PyData → EnvD) (hi : i ρ st = .ok ds st) (hg : ∀ d ∈ ds, g d (frzE own ρ) = some (r1 d))
    (he : ∀ d ∈ ds, e (r1 d) st = .ok (f d) st) (hl : ds.length ≤ sizeLine) : eLc i own g (bdLast cYes e) ρ st = .ok (.list (ds.map f)) st := by
  have := eLc_if (c := cYes) (fun _ => true) f r1 hi hg (fun _ _ => rfl) (fun d hd _ => he d hd) hl
  rw [this, List.filter_eq_self.mpr fun _ _ => rfl]
/-- a loop that changes neither names of use nor the store: by an invariant of the turn -/
theorem forGo_inv {g : DG} {body : DS} (I : List PyData → EnvD → Store → Prop) : ∀ (ds done : List PyData) (ρ : EnvD) (st : Store), I done ρ st → (∀ done d ρ st, d ∈ ds → I done ρ st → ∃ ρ1 ρ2 st2, g d ρ = some ρ1 ∧ (body ρ1 st = .nx ρ2 st2 ∨ body ρ1 st = .ct ρ2 st2) ∧ I (done ++ [d]) ρ2 st2) →
    ∃ ρ' st', forGo g body ds ρ st = .nx ρ' st' ∧ I (done ++ ds) ρ' st'
  | [], done, ρ, st, h, _ => ⟨ρ, st, rfl, by simpa using h⟩
  | d :: ds, done, ρ, st, h, hs => by
    obtain ⟨ρ1, ρ2, st2, h1, h2, h3⟩ := hs done d ρ st List.mem_cons_self h
    obtain ⟨ρ', st', h4, h5⟩ := forGo_inv I ds (done ++ [d]) ρ2 st2 h3 fun dn x r s hx hI => hs dn x r s (List.mem_cons_of_mem _ hx) hI
    refine ⟨ρ', st', ?_, by simpa using h5⟩
    rw [forGo, h1]
    rcases h2 with h2 | h2 <;> simp only [h2] <;> exact h4
end
end Ev
end

section
set_option maxRecDepth 100000
set_option maxHeartbeats 4000000
namespace Ev
open PySem PySem.Spec PyProof.Rows L2

/-! ### an element of a list in a name: its own, or a cell of the store -/
def eIxV (i : Nat) (fk : DE) : DE := fun ρ st => if (rdL i ρ st).isSome = true then (fk ρ st).bind fun k st1 => match rdL i ρ st1, intOf k with
  | some (ds, _), some z => .of (atI ds z) st1
  | _, _ => .stuck else .stuck
section
variable {X : Cx} {F : Fx} {M : List Nat} {fr : Bool} {b : Expr} {fk : DE} {pos p : Pos} {i : Nat} {x : Str}
theorem pe_ixV (hK : F.G.K = X.K) (hN : X.N[i]? = some x) (hv : Vis X.env.scope x) (hb : PE X b (tD F M fr fk)) (hs : PlainIx b) (hd : (x == ("__debug__" : Str)) = false := by decide) (hcd : (x == ("__classdict__" : Str)) = false := by decide) :
    PE X (.Subscript (.Name x p) b pos) (tD F M false (eIxV i fk)) :=
  (pe_ix ix_list (pe_var hN hv hd hcd) hb hs).imp fun σ H Q ⟨L, AL, ρ, st, R, h⟩ => by
    unfold eIxV at h
    cases hr : rdL i ρ st with
    | none => rw [hr] at h; exact h.elim
    | some z0 =>
      obtain ⟨ds0, w0⟩ := z0
      rw [hr] at h
      obtain ⟨a, vs, h1, h2, _⟩ := rdL_ref R hr
      refine ⟨.ref a, h1, ?_⟩
      refine tD_bind (P := DPost F L AL ρ σ H M false Q) R h (fun x st' h => h) (fun h => h) fun d st1 v H1 R1 E1 rd _ h => ?_
      cases q : rdL i ρ st1 with
      | none => rw [q] at h; exact h.elim
      | some z =>
        obtain ⟨ds, w⟩ := z
        rw [q] at h
        cases rd with
        | int k =>
          have h : DPost F L AL ρ σ H M false Q (ER.of (atI ds k) st1) := h
          cases e : atI ds k with
          | none => rw [e] at h; exact h.elim
          | some y =>
            rw [e] at h
            obtain ⟨a', vs', A0, k1, k2, k3, k4, k5, k6, k7⟩ := rdL_at R1 q
            rw [h1] at k1
            cases k1
            obtain ⟨u, e1, e2⟩ := atI_rep k4 e
            exact ⟨a, vs', k, u, rfl, rfl, .inl (.inl k2), e1, h u H1 R1 E1 (e2.imp fun b k _ => ⟨(k6 b k).1, .inr fun j o => absurd o ((k6 b k).2 j)⟩) fun z => nomatch z⟩
        | _ => exact h.elim
end
end Ev
end

section
set_option maxRecDepth 100000
set_option maxHeartbeats 4000000
namespace Ev
open PySem PySem.Spec PyProof.Rows L2

/-! ### a fresh list of calm elements may be told with no names -/
def eFr (f : DE) : DE := fun ρ st => (f ρ st).bind fun d st => if calmD true d = true then .ok d st else .stuck
section
variable {X : Cx} {F : Fx} {M : List Nat} {e : Expr} {f : DE}
theorem pe_frD (h : PE X e (tD F M true f)) : PE X e (tD F [] true (eFr f)) := h.imp fun σ H Q ⟨L, AL, ρ, st, R, h⟩ => by
  refine tD_bind (P := DPost F L AL ρ σ H [] true Q) R h (fun x st' h => h) (fun h => h) fun d st1 v H1 R1 E1 r fre h => ?_
  by_cases hc : calmD true d = true
  · rw [if_pos hc] at h
    unfold calmD at hc
    cases hm : mutD d with
    | true =>
      rw [hm] at hc
      have hc : inner0 d = true := hc
      obtain ⟨a, o, rfl, h0, h1, m⟩ := fre rfl hm
      exact h _ H1 R1 E1 (MutRep.rep (m.free hc) h1 ⟨R.notZ h0, .inl h0⟩) fun _ _ => ⟨a, o, rfl, h0, h1, m.free hc⟩
    | false =>
      rw [hm] at hc
      have hc : noL d = true := hc
      exact h _ H1 R1 E1 (r.free hc) fun _ z => by rw [hm] at z; cases z
  · rw [if_neg hc] at h
    exact h.elim
end
end Ev
end

section
set_option maxRecDepth 100000
set_option maxHeartbeats 4000000
namespace Ev
open PySem PySem.Spec PyProof.Rows L2
section
variable {P : Program} {w : World} {K : PySem.W.Frag} {mg : Str → Option Value} {base : Heap} {x qual : Str} {params : Arguments} {s0 : Stmt} {ss body : List Stmt} {scope : Scope} {f : Addr} {fd : FuncData}
/-- the law, where it makes lambdas itself -/
theorem okLawL {G : Gd} {xc : Nat → Addr} {T : List (Addr × Str)} {N ps : List Str} {k i : Nat} {g kk : DS} {c : Addr} (hK : G.K = K) (F : FunD K x qual params body scope [] [] f fd) (hc : CodeAt K f c) (S : FnScope N ps scope) (hps : ps.length = 1) (hle : 1 ≤ N.length)
    (hm : ∀ ns : List Int, ns.length ≤ 63 → (∀ z ∈ ns, Builtin.Int.intBits z ≤ 1048576) → ∃ fl st, sHand g i kk (some (frzl (ns.map .int), false) :: List.replicate (N.length - 1) none) [] = .ret (.bool true) fl st)
    (hb : ∀ (A : Around) (outer : List Env) (s : Shared) (H : Hp) (E : XK) (L Z : List Addr), Z = [] → Room k (A.deeper (envOfC qual scope s.heap.objs.size f (.ref c))) →
      PSs (cxOf (L2.CX P w) P w K mg base N qual scope f (.ref c) A outer s H E) body (fun D σ H' => ∃ L1 AL ρ st, Rel ⟨G, xc, H, L, T, E, Z, N.length⟩ L1 AL ρ st σ H' ∧ (∃ f st', sHand g i kk ρ st = .ret (.bool true) f st') ∧ ∀ H', D.rt (.bl true) H')) :
    FnOk P w K mg base (L2.CX P w) (k + 1) f fd ps (spLaw K T) := by
  obtain ⟨oc, od, dV, kV, doc, pm, an, cdv, ct, osl, rfl, lk, hcd, _, _⟩ := F.ex
  have e : cdv = .ref c := hc _ _ _ _ lk
  subst e
  refine fn_of lk hcd S (fun vs H Q E ⟨a, ns, e, _⟩ => by rw [e, hps]; rfl) fun A outer s H vs Q E hr ⟨a, ns, e, hq, tb, h1, h2, hQ⟩ => ?_
  subst e
  have gd : Gnd G T [] [] (fun _ => False) [] H := ⟨List.nodup_nil, rfl, fun i a ds e => by simp at e, fun b k => k.elim, fun b k => k.elim, tb, fun b k => by cases k⟩
  have r : Reps G [] H (fun b => b ∉ ([] : List Addr) ++ []) [frzl (ns.map .int)] [.ref a] := .cons (.frz ((SqF.of (by rw [hK]; exact hq)).imp fun b _ _ => by simp) (by rw [List.length_map, sizeLine_eq]; omega) (reps_ints ns)) .nil
  exact ⟨_, hb A outer s H E [] [] rfl hr, [], _, _, [], rel0 gd r (by simpa using hle), hm ns h1 h2, hQ⟩
end
/-- of several tables each has one name -/
theorem tuX {T : List (Addr × Str)} {l : List Addr} (k : Nat) {a : Addr} {n : Str} (h : T[k]? = some (a, n)) (e : T.map (·.1) = l) (nd : l.Nodup) : ∀ p ∈ T, p.1 = a → p.2 = n := by
  intro p hp ha
  obtain ⟨i, hi, hip⟩ := List.mem_iff_getElem.mp hp
  have hk := (List.getElem?_eq_some_iff.mp h).1
  have hk2 := (List.getElem?_eq_some_iff.mp h).2
  have q : i = k := by
    have h1 : (T.map (·.1))[i]'(by simpa using hi) = (T.map (·.1))[k]'(by simpa using hk) := by
      rw [List.getElem_map, List.getElem_map, hip, hk2]
      exact ha
    rw [← e] at nd
    exact (List.getElem_inj nd).mp h1
  subst q
  rw [← hip, hk2]
end Ev
end

section
set_option maxRecDepth 100000
set_option maxHeartbeats 2000000
namespace Ev
open PySem PySem.Spec PyProof.Rows L2

/-! ### dicts whose keys are rows of ints -/
def rowOf : PyData → Option (List Int)
  | .tuple xs => asInts xs
  | _ => none
theorem rowOf_row (k : List Int) : rowOf (.tuple (k.map .int)) = some k := by
  show asInts (k.map .int) = some k
  induction k with
  | nil => rfl
  | cons a k ih => rw [List.map_cons, asInts, ih]; rfl
theorem rowOf_eq {d : PyData} {k : List Int} (h : rowOf d = some k) : d = .tuple (k.map .int) := by
  cases d with
  | tuple xs =>
    have h : asInts xs = some k := h
    congr 1
    induction xs generalizing k with
    | nil => cases h; rfl
    | cons x xs ih =>
      cases x with
      | int i =>
        rw [asInts] at h
        obtain ⟨r, hr, rfl⟩ := Option.map_eq_some_iff.mp h
        rw [List.map_cons, ← ih (show rowOf (.tuple xs) = some r from hr) hr]
      | _ => simp [asInts] at h
  | _ => cases h
def dgetL : List (PyData × PyData) → List Int → Option PyData
  | [], _ => none
  | (kd, d) :: r, k => if rowOf kd = some k then some d else dgetL r k
def dputL : List (PyData × PyData) → List Int → PyData → List (PyData × PyData)
  | [], k, d => [(.tuple (k.map .int), d)]
  | (kd, e) :: r, k, d => if rowOf kd = some k then (kd, d) :: r else (kd, e) :: dputL r k d
/-- the rows-dict's pairs -/
def rdOf : PyData → Option (List (PyData × PyData))
  | .dict ((.none, .int 7) :: ds) => some ds
  | _ => none
theorem rdOf_eq {c : PyData} {ds : List (PyData × PyData)} (h : rdOf c = some ds) : c = rdict ds := by
  unfold rdOf at h
  split at h
  · cases h; rfl
  · cases h
theorem rowK_inj {a b : List Int} (h : rowK a = rowK b) : a = b := by
  unfold rowK at h
  induction a generalizing b with
  | nil => cases b with
    | nil => rfl
    | cons _ _ => cases h
  | cons x a ih => cases b with
    | nil => cases h
    | cons y b =>
      rw [List.map_cons, List.map_cons] at h
      injection h with h1 h2
      injection h1 with h1
      rw [h1, ih h2]
theorem rowK_V (k : List Int) : (rowK k).map kV = k.map V.int := by
  unfold rowK
  rw [List.map_map]
  rfl
section
variable {X : Cx} {pins : List (Addr × Obj)} {σ : L2.St} {H : Hp} {s : Shared} {G : Gd} {L : List Addr} {A : Addr → Prop} {a : Addr}
/-- a dict told -/
def DRep (G : Gd) (L : List Addr) (H : Hp) (A : Addr → Prop) (a : Addr) (ds : List (PyData × PyData)) : Prop :=
  ∃ o ks, H a = some (dtO a o) ∧ ks.length ≤ sizeLine ∧ DtObj G a o ks ∧ RepT G L H A ds ks
theorem Rep.dict {ds : List (PyData × PyData)} {v : V} (r : Rep G L H A (rdict ds) v) : ∃ a, v = .ref a ∧ DRep G L H A a ds := by
  cases r with
  | dic h1 z n r => exact r.noNone.elim
  | dit h1 z n o r => exact ⟨_, rfl, _, _, h1, n, o, r⟩
abbrev PrK (ks : List (List Int × Addr × V)) (xs : List (List Key × Addr × Value)) : Prop := Paired (fun (p : List Int × Addr × V) (q : List Key × Addr × Value) => q.1 = rowK p.1 ∧ q.2.1 = p.2.1 ∧ RelV p.2.2 q.2.2) ks xs
theorem key_is (hK : G.K = X.K) (I : Inv X pins σ H s) {b : Addr} {k : List Int} (t : TuP G.K H b (k.map V.int)) : (tupleKind (mixKind X.prog X.w)).is s.heap (rowK k) b := by
  rw [hK] at t
  obtain ⟨its, o, n, r, h1, h2, _, h3, _⟩ := I.tupM t
  rw [← rowK_V] at r
  exact ⟨o, its.toArray, n, h1, h2, h3, by simpa using items_are r⟩
theorem dict_open (hK : G.K = X.K) (hP : G.P = X.prog ∧ G.w = X.w) (I : Inv X pins σ H s) {ds : List (PyData × PyData)} (d : DRep G L H A a ds) :
    (a == sysModules) = false ∧ ∃ ks xs, s.heap.DictOfH (tupleKind (mixKind X.prog X.w)) a xs ∧ RepT G L H A ds ks ∧ PrK ks xs ∧ ks.length ≤ sizeLine := by
  obtain ⟨o, ks, h, n, ob, r⟩ := d
  · obtain ⟨es, ep, xs, e1, e2, e3, e4⟩ := ob.es
    rw [hP.1, hP.2] at e2
    have hg : s.heap.get? a = some o := (show ObjOk X.prog X.w H s.heap a (dtO a o) from I.hok a _ h).1
    refine ⟨ob.sm, ks, xs, ⟨o, es, ep, hg, ob.ex, e1, e2, fun x hx => ?_, e3⟩, r, e4, n⟩
    clear e1 e2 e3 h ob n hg
    induction e4 generalizing ds with
    | nil => cases hx
    | @cons p q ps qs hq t ih =>
      cases r with
      | cons tp nn rd rt =>
        rcases List.mem_cons.mp hx with rfl | hx
        · rw [hq.1, hq.2.1]
          exact key_is hK I tp
        · exact ih rt hx
theorem look_rep {ds : List (PyData × PyData)} {ks : List (List Int × Addr × V)} {xs : List (List Key × Addr × Value)} (r : RepT G L H A ds ks) (p : PrK ks xs) (k : List Int) :
    (dgetL ds k = none ∧ atKey xs (rowK k) = none) ∨ ∃ d b v u, dgetL ds k = some d ∧ atKey xs (rowK k) = some (b, u) ∧ RelV v u ∧ Rep G L H A d v := by
  induction p generalizing ds with
  | nil =>
    cases r
    exact .inl ⟨rfl, rfl⟩
  | @cons p q ps qs hq t ih =>
    obtain ⟨qk, qa, qv⟩ := q
    obtain ⟨h1, h2, h3⟩ := hq
    simp only at h1 h2 h3
    subst h1 h2
    cases r with
    | @cons k0 b0 d0 v0 _ _ tp nn rd rt =>
      unfold dgetL atKey
      rw [rowOf_row]
      by_cases e : k0 = k
      · subst e
        refine .inr ⟨d0, b0, v0, qv, by simp, by simp, h3, rd⟩
      · have n1 : ¬ (some k0 = some k) := fun z => e (Option.some.inj z)
        have n2 : decide (rowK k0 = rowK k) = false := decide_eq_false fun z => e (rowK_inj z)
        rw [if_neg n1, List.find?_cons, n2]
        exact ih rt
end
/-- d[k] -/
def dixD (c k : PyData) : Option PyData := (rdOf c).bind fun ds => (rowOf k).bind (dgetL ds)
/-- k in d -/
def dinD (k c : PyData) : Option PyData := (rdOf c).bind fun ds => (rowOf k).map fun r => .bool (dgetL ds r).isSome
def dnotInD (k c : PyData) : Option PyData := (rdOf c).bind fun ds => (rowOf k).map fun r => .bool (!(dgetL ds r).isSome)
section
variable {X : Cx} {F : Fx} {G : Gd} {M M1 M2 M3 : List Nat} {fr fr1 fr2 fr3 : Bool} {e a b o : Expr} {fa fb fc : DE} {pos apos cpos : Pos}
theorem Rep.rowT {L : List Addr} {H : Hp} {A : Addr → Prop} {d : PyData} {v : V} {k : List Int} (r : Rep G L H A d v) (h : rowOf d = some k) : ∃ b, v = .ref b ∧ TuP G.K H b (k.map V.int) ∧ k.length ≤ sizeLine := by
  rw [rowOf_eq h] at r
  cases r with
  | tup t n q =>
    have hl := q.length
    rename_i vs
    have e : vs = k.map V.int := by
      clear t n h hl
      induction k generalizing vs with
      | nil => cases q; rfl
      | cons x k ih =>
        rw [List.map_cons] at q
        cases q with
        | cons q1 q2 => cases q1; rw [List.map_cons, ← ih q2]
    subst e
    exact ⟨_, rfl, t, by simpa using n⟩
theorem ix_dt (hK : G.K = X.K) (hP : G.P = X.prog ∧ G.w = X.w) (hu : X.A.units + 66 < cLine) : IxR X (r2 G false dixD) := by
  intro value slice pins s σ H x y v u Q I rx ry h hs
  obtain ⟨L, A, d, e, w, r1, r2, hw, k⟩ := r2_ex h
  obtain ⟨ds, hd, hw⟩ := Option.bind_eq_some_iff.mp hw
  obtain ⟨r, hr, hg⟩ := Option.bind_eq_some_iff.mp hw
  rw [rdOf_eq hd] at r1
  obtain ⟨a, rfl, dr⟩ := r1.dict
  obtain ⟨b, rfl, tb, _⟩ := r2.rowT hr
  cases rx
  cases ry
  obtain ⟨_, ks, xs, dd, rt, pr, _⟩ := dict_open hK hP I dr
  rcases look_rep rt pr r with ⟨z, _⟩ | ⟨d', b', v', u', z1, z2, z3, z4⟩
  · rw [z] at hg; cases hg
  · rw [z1] at hg
    cases hg
    exact tail_any dd.typeIs PySem.F.slot_dict_getitem.lookup (wpAny_getItem_heap (tupleKind_room_in1 (by omega)) (key_is hK I tb) dd z2 ⟨v', H, I.tok _, z3, k_old k z4 fun z => nomatch z⟩) hs
theorem op_dinD (hK : G.K = X.K) (hP : G.P = X.prog ∧ G.w = X.w) (hu : X.A.units + 66 < cLine) : OpR X (compareOp .In) (r2 G false dinD) := by
  intro pins s σ H x y v u Q I rx ry h
  obtain ⟨L, A, d, e, w, r1, r2, hw, k⟩ := r2_ex h
  obtain ⟨ds, hd, hw⟩ := Option.bind_eq_some_iff.mp hw
  obtain ⟨r, hr, rfl⟩ := Option.map_eq_some_iff.mp hw
  rw [rdOf_eq hd] at r2
  obtain ⟨a, rfl, dr⟩ := r2.dict
  obtain ⟨b, rfl, tb, _⟩ := r1.rowT hr
  cases rx
  cases ry
  obtain ⟨sm, ks, xs, dd, rt, pr, _⟩ := dict_open hK hP I dr
  refine wpAny_in_heap (tupleKind_room_in1 (by omega)) (key_is hK I tb) sm dd ?_
  have : (dgetL ds r).isSome = (atKey xs (rowK r)).isSome := by
    rcases look_rep rt pr r with ⟨z1, z2⟩ | ⟨_, _, _, _, z1, z2, _⟩ <;> rw [z1, z2] <;> rfl
  rw [← this]
  exact ⟨.bl _, H, I.tok _, rfl, k_old k (.bl _) fun z => nomatch z⟩
theorem op_dnotInD (hK : G.K = X.K) (hP : G.P = X.prog ∧ G.w = X.w) (hu : X.A.units + 66 < cLine) : OpR X (compareOp .NotIn) (r2 G false dnotInD) := by
  intro pins s σ H x y v u Q I rx ry h
  obtain ⟨L, A, d, e, w, r1, r2, hw, k⟩ := r2_ex h
  obtain ⟨ds, hd, hw⟩ := Option.bind_eq_some_iff.mp hw
  obtain ⟨r, hr, rfl⟩ := Option.map_eq_some_iff.mp hw
  rw [rdOf_eq hd] at r2
  obtain ⟨a, rfl, dr⟩ := r2.dict
  obtain ⟨b, rfl, tb, _⟩ := r1.rowT hr
  cases rx
  cases ry
  obtain ⟨sm, ks, xs, dd, rt, pr, _⟩ := dict_open hK hP I dr
  refine wpAny_notIn_heap (tupleKind_room_in1 (by omega)) (key_is hK I tb) sm dd ?_
  have : (dgetL ds r).isSome = (atKey xs (rowK r)).isSome := by
    rcases look_rep rt pr r with ⟨z1, z2⟩ | ⟨_, _, _, _, z1, z2, _⟩ <;> rw [z1, z2] <;> rfl
  rw [← this]
  exact ⟨.bl _, H, I.tok _, rfl, k_old k (.bl _) fun z => nomatch z⟩
end

/-! d.get(k, z) -/
def eGet (fo fk fz : DE) : DE := fun ρ st => (fo ρ st).bind fun c st => match rdOf c with
  | some ds => (fk ρ st).bind fun k st => (fz ρ st).bind fun z st => match rowOf k with
    | some r => if noL ((dgetL ds r).getD z) = true then .ok ((dgetL ds r).getD z) st else .stuck
    | none => .stuck
  | none => .stuck
section
variable {X : Cx} {F : Fx} {M1 M2 M3 : List Nat} {fr1 fr2 fr3 : Bool} {e f o : Expr} {fo fk fz : DE} {pos apos cpos : Pos}
theorem pe_dgetD (hK : F.G.K = X.K) (hP : F.G.P = X.prog ∧ F.G.w = X.w) (hu : X.A.units + 66 < cLine) (ho : PE X o (tD F M1 fr1 fo)) (he : PE X e (tD F M2 fr2 fk)) (hf : PE X f (tD F M3 fr3 fz)) (m : L2.M2 X o "get" apos e f cpos := by exact ⟨rfl, rfl, rfl, rfl⟩) :
    PE X (.Call (.Attribute o "get" apos) [e, f] [] cpos) (tD F [] false (eGet fo fk fz)) := by
  refine ⟨fun pins s σ H Q I ⟨L, AL, ρ, st, R, h⟩ => ?_⟩
  refine wpAny_Call_method m.base m.few m.line PySem.F.plainAttrs_dict PySem.F.slot_dict_get PySem.F.type_dict_get (thn (ho.run pins s σ H _ I (tD_bind (P := DPost F L AL ρ σ H [] false Q)
    (Q1 := fun v H1 => ∃ a ds st1, v = .ref a ∧ Rel F L AL ρ st1 σ H1 ∧ Ext L H H1 ∧ Rep F.G L H1 (AP (L ++ F.Z) ρ σ M1 H) (rdict ds) v ∧ DPost F L AL ρ σ H [] false Q ((fk ρ st1).bind fun k st => (fz ρ st).bind fun z st => match rowOf k with
      | some r => if noL ((dgetL ds r).getD z) = true then .ok ((dgetL ds r).getD z) st else .stuck
      | none => .stuck)) R h (fun x st' h => h) (fun h => h) fun d st1 v H1 R1 E1 rd _ h => ?_)) fun u s1 ⟨x, H1, I1, rx, a, ds, st1, ex, R1, E1, rd, h⟩ => ?_)
  · cases q : rdOf d with
    | none => rw [q] at h; exact h.elim
    | some ds =>
      rw [q] at h
      rw [rdOf_eq q] at rd
      obtain ⟨a, rfl, _⟩ := rd.dict
      exact ⟨a, ds, st1, rfl, R1, E1, rd, h⟩
  subst ex
  cases rx
  obtain ⟨a0, e0, dr⟩ := rd.dict
  cases e0
  obtain ⟨sm, _, _, dd, _⟩ := dict_open hK hP I1 dr
  obtain ⟨ob, _, _, g1, g2, _⟩ := id dd
  refine ⟨dd.typeIs, fun b q => by cases q; exact ⟨ob, g1, g2.2.1⟩, ?_⟩
  rw [m.trees]
  refine Calls.callWith_builtin rfl (Calls.evalArgs_plain (Calls.spliced_cons (thn (he.run pins s1 σ H1 (fun y H2 => ∃ k st2, Rel F L AL ρ st2 σ H2 ∧ Ext L H1 H2 ∧ Rep F.G L H2 (AP (L ++ F.Z) ρ σ M2 H1) k y ∧ DPost F L AL ρ σ H [] false Q ((fz ρ st2).bind fun z st => match rowOf k with
      | some r => if noL ((dgetL ds r).getD z) = true then .ok ((dgetL ds r).getD z) st else .stuck
      | none => .stuck)) I1 (tD_bind (P := DPost F L AL ρ σ H [] false Q) R1 h (fun x st' h cls dd H' R' E' xr => h cls dd H' R' (E1.trans E') xr) (fun h => h) fun k st2 y H2 R2 E2 rk _ h => ⟨k, st2, R2, E2, rk, h⟩)) fun iv s2 ⟨y, H2, I2, ry, k, st2, R2, E2, rk, h⟩ =>
    Calls.spliced_cons (thn (hf.run pins s2 σ H2 (fun zv H3 => ∃ z st3 r, Rel F L AL ρ st3 σ H3 ∧ Ext L H2 H3 ∧ Rep F.G L H3 (AP (L ++ F.Z) ρ σ M3 H2) z zv ∧ rowOf k = some r ∧ noL ((dgetL ds r).getD z) = true ∧ DPost F L AL ρ σ H [] false Q (.ok ((dgetL ds r).getD z) st3)) I2
      (tD_bind (P := DPost F L AL ρ σ H [] false Q) R2 h (fun x st' h cls dd H' R' E' xr => h cls dd H' R' ((E1.trans E2).trans E') xr) (fun h => h) fun z st3 zv H3 R3 E3 rz _ h => ?_)) fun zu s3 ⟨zv, H3, I3, rzv, z, st3, r, R3, E3, rz, hr, hn, h⟩ => Calls.spliced_nil ?_))))
  · cases hr : rowOf k with
    | none => rw [hr] at h; exact h.elim
    | some r =>
      rw [hr] at h
      have h : DPost F L AL ρ σ H [] false Q (if noL ((dgetL ds r).getD z) = true then .ok ((dgetL ds r).getD z) st3 else .stuck) := h
      by_cases hn : noL ((dgetL ds r).getD z) = true
      · rw [if_pos hn] at h
        exact ⟨z, st3, r, R3, E3, rz, rfl, hn, h⟩
      · rw [if_neg hn] at h
        exact h.elim
  · have rd3 := Rep.later R1 (E2.trans E3) rd
    have rk3 := Rep.later R2 E3 rk
    obtain ⟨a1, e1, dr3⟩ := rd3.dict
    cases e1
    obtain ⟨b, rfl, tb, _⟩ := rk3.rowT hr
    cases ry
    obtain ⟨sm3, ks, xs, dd3, rt, pr, _⟩ := dict_open hK hP I3 dr3
    refine call_meetsIn PySem.F.slot_dict_get dd3.typeIs PySem.F.entry_dict_get (PySem.F.args_dict_get_3 _ _ _) (meetsH_dict_get_default (tupleKind (mixKind X.prog X.w)) a b sm3 zu)
      ⟨tupleKind_room_in1 (by omega), rowK r, xs, key_is hK I3 tb, dd3, ?_⟩
    rcases look_rep rt pr r with ⟨z1, z2⟩ | ⟨d', b', v', u', z1, z2, z3, z4⟩
    · rw [z1] at hn h
      rw [z2]
      exact ⟨zv, H3, I3.tok _, rzv, h zv H3 R3 ((E1.trans E2).trans E3) (Rep.free rz hn) fun z => nomatch z⟩
    · rw [z1] at hn h
      rw [z2]
      exact ⟨v', H3, I3.tok _, z3, h v' H3 R3 ((E1.trans E2).trans E3) (Rep.free z4 hn) fun z => nomatch z⟩
end

/-! d[k] = v -/
def putKs : List (List Int × Addr × V) → List Int → Addr → V → List (List Int × Addr × V)
  | [], k, b, v => [(k, b, v)]
  | (k0, b0, v0) :: r, k, b, v => if k0 = k then (k0, b0, v) :: r else (k0, b0, v0) :: putKs r k b v
theorem putKs_len (k : List Int) (b : Addr) (v : V) : ∀ ks, (putKs ks k b v).length ≤ ks.length + 1
  | [] => Nat.le_refl _
  | (k0, b0, v0) :: r => by
    unfold putKs
    split
    · simp
    · have := putKs_len k b v r
      simp only [List.length_cons]
      omega
theorem putKs_new {k : List Int} {b : Addr} {v : V} {u : Value} (rv : RelV v u) {ks : List (List Int × Addr × V)} {xs : List (List Key × Addr × Value)} (p : PrK ks xs) (h : (atKey xs (rowK k)).isSome = false) : PrK (putKs ks k b v) (xs ++ [(rowK k, b, u)]) := by
  induction p with
  | nil => exact .cons ⟨rfl, rfl, rv⟩ .nil
  | @cons p q ps qs hq t ih =>
    obtain ⟨k0, b0, v0⟩ := p
    unfold atKey at h
    rw [List.find?_cons] at h
    by_cases e : k0 = k
    · have : decide (q.1 = rowK k) = true := decide_eq_true (by rw [hq.1, e])
      rw [this] at h
      cases h
    · have : decide (q.1 = rowK k) = false := decide_eq_false fun z => e (rowK_inj (hq.1.symm.trans z))
      rw [this] at h
      unfold putKs
      rw [if_neg e]
      exact .cons hq (ih h)
theorem putKs_old {k : List Int} {b : Addr} {v : V} {u : Value} (rv : RelV v u) {ks : List (List Int × Addr × V)} {xs : List (List Key × Addr × Value)} (p : PrK ks xs) (nd : (xs.map (·.1)).Nodup) (h : (atKey xs (rowK k)).isSome = true) : PrK (putKs ks k b v) (xs.map (putAt (rowK k) u)) := by
  induction p with
  | nil => cases h
  | @cons p q ps qs hq t ih =>
    obtain ⟨k0, b0, v0⟩ := p
    rw [List.map_cons, List.nodup_cons] at nd
    unfold atKey at h
    rw [List.find?_cons] at h
    unfold putKs
    rw [List.map_cons]
    by_cases e : k0 = k
    · rw [if_pos e]
      have e1 : q.1 = rowK k := by rw [hq.1, e]
      have same : qs.map (putAt (rowK k) u) = qs := by
        rw [List.map_congr_left (g := id), List.map_id]
        intro x hx
        unfold putAt
        rw [if_neg]
        · rfl
        · intro z
          exact nd.1 (by rw [e1, ← z]; exact List.mem_map_of_mem hx)
      rw [same]
      refine .cons ?_ t
      unfold putAt
      rw [if_pos e1]
      exact ⟨hq.1, hq.2.1, rv⟩
    · rw [if_neg e]
      have : decide (q.1 = rowK k) = false := decide_eq_false fun z => e (rowK_inj (hq.1.symm.trans z))
      rw [this] at h
      refine .cons ?_ (ih nd.2 h)
      unfold putAt
      rw [if_neg fun z => e (rowK_inj (hq.1.symm.trans z))]
      exact hq
theorem putKs_rep {G : Gd} {L : List Addr} {H : Hp} {A : Addr → Prop} {k : List Int} {b : Addr} {d : PyData} {v : V} (tb : TuP G.K H b (k.map V.int)) (nb : k.length ≤ sizeLine) (rv : Rep G L H A d v) : ∀ {ds : List (PyData × PyData)} {ks : List (List Int × Addr × V)}, RepT G L H A ds ks → RepT G L H A (dputL ds k d) (putKs ks k b v)
  | _, _, .nil => .cons tb nb rv .nil
  | _, _, .cons (k := k0) t n r u => by
    unfold dputL putKs
    rw [rowOf_row]
    by_cases e : k0 = k
    · subst e
      rw [if_pos rfl, if_pos rfl]
      exact .cons t n rv u
    · rw [if_neg fun z => e (Option.some.inj z), if_neg e]
      exact .cons t n r (putKs_rep tb nb rv u)
/-- what a write wants and leaves -/
def rSetT (G : Gd) : V → V → V → Hp → (Hp → Prop) → Prop := fun o i v H Q => ∃ a b k ks, o = .ref a ∧ i = .ref b ∧ TuP G.K H b (k.map V.int) ∧ ks.length < sizeLine ∧
  (∃ ob L A ds, H a = some (dtO a ob) ∧ DtObj G a ob ks ∧ RepT G L H A ds ks) ∧ ∀ ob', DtObj G a ob' (putKs ks k b v) → Q (upd H a (dtO a ob'))
theorem set_dt {X : Cx} {G : Gd} (hK : G.K = X.K) (hP : G.P = X.prog ∧ G.w = X.w) (hu : X.A.units + 66 < cLine) : PSet X (rSetT G) := by
  intro pins s σ H o i v ov iv u Q I ro ri rv h
  obtain ⟨a, b, k, ks, rfl, rfl, tb, hl, hc, q⟩ := h
  cases ro
  cases ri
  obtain ⟨ob, L, A, ds, h1, h3, h4⟩ := hc
  have mu : Mut (H a) := by rw [h1]; trivial
  have op : (a == sysModules) = false ∧ ∃ xs, s.heap.DictOfH (tupleKind (mixKind X.prog X.w)) a xs ∧ PrK ks xs := by
    obtain ⟨es, ep, xs, e1, e2, e3, e4⟩ := h3.es
    have hg : s.heap.get? a = some ob := (show ObjOk X.prog X.w H s.heap a (dtO a ob) from I.hok a _ h1).1
    rw [hP.1, hP.2] at e2
    refine ⟨h3.sm, xs, ⟨ob, es, ep, hg, h3.ex, e1, e2, fun x hx => ?_, e3⟩, e4⟩
    clear e1 e2 e3 h1 h3 q mu hl hg
    induction e4 generalizing ds with
    | nil => cases hx
    | @cons p q ps qs hq t ih =>
      cases h4 with
      | cons tp nn rd rt =>
        rcases List.mem_cons.mp hx with rfl | hx
        · rw [hq.1, hq.2.1]
          exact key_is hK I tp
        · exact ih _ rt hx
  obtain ⟨sm, xs, dd, pr⟩ := op
  have hxs : xs.length = ks.length := (Paired.length pr).symm
  refine wpAny_setItem_heap (hsz := by omega) (tupleKind_room_in1 (by omega)) (key_is hK I tb) dd fun h' dd' hs => ?_
  obtain ⟨ob', es, ep, g1, g2, g3, g4, g5, g6⟩ := dd'
  have ob : DtObj G a ob' (putKs ks k b v) := by
    refine ⟨sm, g2, es, ep, _, g3, by rw [hP.1, hP.2]; exact g4, g6, ?_⟩
    unfold storedH
    obtain ⟨_, _, _, _, _, _, _, _, nd⟩ := dd
    by_cases z : (atKey xs (rowK k)).isSome = true
    · rw [if_pos z]
      exact putKs_old rv pr nd z
    · rw [if_neg z]
      exact putKs_new rv pr (by simpa using z)
  exact ⟨_, I.write (x := a) (e := a) (o := dtO a ob') mu (.inl rfl) (fun c w hc z => (hs.2 c hc).trans z) ⟨ob', g1⟩ (show ObjOk X.prog X.w (upd H a (dtO a ob')) h' a (dtO a ob') from ⟨g1, ⟨ob', g1⟩, fun h1 h2 z w => w _ z⟩), q ob' ob⟩
end Ev
end

section
set_option maxRecDepth 100000
set_option maxHeartbeats 2000000
namespace Ev
open PySem PySem.Spec PyProof.Rows L2

/-! ### x[k] = v, x an own dict -/
def ownDict (i : Nat) (ρ : EnvD) : Option (List (PyData × PyData)) := match ρ[i]? with
  | some (some (d, true)) => rdOf d
  | _ => none
def sDSet (i : Nat) (M : List Nat) (fr : Bool) (fk f : DE) : DS := fun ρ st => eS (f ρ st) fun d st => if (ownDict i ρ).isSome = true then eS (fk ρ st) fun k st => match ownDict i (dropFor M fr d ρ), rowOf k with
  | some ds, some r => if ds.length < sizeLine then .nx ((dropFor M fr d ρ).set i (some (rdict (dputL ds r d), true))) st else .stuck
  | _, _ => .stuck else .stuck
theorem ownDict_eq {i : Nat} {ρ : EnvD} {ds : List (PyData × PyData)} (h : ownDict i ρ = some ds) : ρ[i]? = some (some (rdict ds, true)) := by
  unfold ownDict at h
  split at h
  · rename_i q
    rw [rdOf_eq h] at q
    exact q
  · cases h
theorem RepT.length {G : Gd} {L : List Addr} {H : Hp} {A : Addr → Prop} : ∀ {ds : List (PyData × PyData)} {ks : List (List Int × Addr × V)}, RepT G L H A ds ks → ds.length = ks.length
  | _, _, .nil => rfl
  | _, _, .cons _ _ _ r => congrArg (· + 1) r.length
section
variable {X : Cx} {F : Fx} {M M1 M2 : List Nat} {fr fr1 fr2 : Bool} {e idx : Expr} {f fk : DE} {pos p : Pos}
theorem ps_dsetD {i : Nat} {x : Str} {tp : Pos} (hK : F.G.K = X.K) (hP : F.G.P = X.prog ∧ F.G.w = X.w) (hu : X.A.units + 66 < cLine) (hN : X.N[i]? = some x) (hv : Vis X.env.scope x) (he : PE X e (tD F M fr f)) (hi : PE X idx (tD F M1 fr1 fk)) (hd : (x == ("__debug__" : Str)) = false := by decide) (hcd : (x == ("__classdict__" : Str)) = false := by decide)
    (ha : ∀ v, assign (.Subscript (.Name x p) idx tp) X.env v = (do
      let ov ← holding [v] (eval (.Name x p) X.env)
      let iv ← holding [v, ov] (eval idx X.env)
      standAt tp
      holding [v, ov, iv] (setItem ov iv v)
      release [v, ov, iv] []) := by intro _; rfl)
    (hs : swapsWithSole [.Subscript (.Name x p) idx tp] e pos.line X.env = pure false := by rfl) (hw : swappedStores [.Subscript (.Name x p) idx tp] e X.env = pure none := by rfl)
    (h1 : (assignEach [.Subscript (.Name x p) idx tp] X.env).map (·.2) = [assign (.Subscript (.Name x p) idx tp) X.env] := by rfl) :
    PS X (.Assign [.Subscript (.Name x p) idx tp] e pos) (tS F (sDSet i M fr fk f)) :=
  (ps_asg he (pg_sub (pe_var hN hv hd hcd) hi (set_dt hK hP hu) ha) hs hw h1).imp fun D σ H ⟨L, AL, ρ, st, R, h⟩ => by
    refine eS_read R h fun d st1 v H1 R1 E1 r fre h => ?_
    have h' : ∃ z, ownDict i ρ = some z ∧ SPost F L AL ρ σ H D (eS (fk ρ st1) fun k st => match ownDict i (dropFor M fr d ρ), rowOf k with
        | some ds, some r => if ds.length < sizeLine then .nx ((dropFor M fr d ρ).set i (some (rdict (dputL ds r d), true))) st else .stuck
        | _, _ => .stuck) := by
      cases hr : ownDict i ρ with
      | none => rw [hr] at h; exact h.elim
      | some z =>
        rw [hr] at h
        exact ⟨z, rfl, h⟩
    obtain ⟨ds0, hr, h⟩ := h'
    obtain ⟨a, o0, h1, h2, _⟩ := R1.own i _ (ownDict_eq hr)
    refine ⟨.ref a, h1, ?_⟩
    refine eS_read R1 h fun k st2 vk H2 R2 E2 rk _ h => ?_
    cases q : ownDict i (dropFor M fr d ρ) with
    | none => rw [q] at h; exact h.elim
    | some ds =>
      cases qk : rowOf k with
      | none => rw [q, qk] at h; exact h.elim
      | some r0 =>
        rw [q, qk] at h
        have h : SPost F L AL ρ σ H D (if ds.length < sizeLine then .nx ((dropFor M fr d ρ).set i (some (rdict (dputL ds r0 d), true))) st2 else .stuck) := h
        by_cases hl : ds.length < sizeLine
        · rw [if_pos hl] at h
          have Rd := R2.dropFor M fr d
          obtain ⟨b, rfl, tb, nb⟩ := rk.rowT qk
          have hi' := ownDict_eq q
          obtain ⟨a', o, k1, k2, k3, k4, k5⟩ := Rd.own i _ hi'
          rw [h1] at k1
          cases k1
          have rv : Rep F.G L H2 (NU (L ++ F.Z) (dropFor M fr d ρ) σ) d v := (told_nu R r fre).keep (E2.kp R1.tr fun b hb => notApp hb.1)
          have op : ∃ ks, ks.length < sizeLine ∧ (∃ ob L' A' ds', H2 a = some (dtO a ob) ∧ DtObj F.G a ob ks ∧ RepT F.G L' H2 A' ds' ks) ∧ RepT F.G L H2 (NU (L ++ F.Z) (dropFor M fr d ρ) σ) ds ks := by
            cases k3 with
            | dK n rr => exact rr.noNone.elim
            | dT n ob rr => exact ⟨_, by rw [← rr.length]; exact hl, ⟨_, _, _, _, k2, ob, rr⟩, rr⟩
          obtain ⟨ks, hz, hc, rt⟩ := op
          refine ⟨a, b, r0, ks, rfl, rfl, tb, hz, hc, fun ob' ob => ?_⟩
          have hput := putKs_len r0 b v ks
          obtain ⟨R', fm⟩ := Rd.wrOwn hi' h1 k2 k3.mut (.dT (by omega) ob (putKs_rep tb nb rv rt))
          exact h σ _ R' ((((E1.trans E2).frm R).trans (Frm.dropFor M fr d)).trans fm)
        · rw [if_neg hl] at h
          exact h.elim
end
end Ev
end

section
set_option maxRecDepth 100000
set_option maxHeartbeats 2000000
namespace Ev
open PySem PySem.Spec PyProof.Rows L2

/-! ### {} to be a dict of rows, and its keys one by one -/
theorem pe_dictRD {X : Cx} {F : Fx} {pos : Pos} : PE X (.Dict [] [] pos) (tD F [] true (eC (rdict []))) := ⟨fun pins s σ H Q I ⟨L, AL, ρ, st, R, h⟩ => by
  have hn := I.hok.fresh (Nat.le_refl s.heap.objs.size)
  have sm : (s.heap.objs.size == sysModules) = false := beq_eq_false_iff_ne.mpr (Ne.symm (Nat.ne_of_lt I.big))
  have ob : DtObj F.G s.heap.objs.size { cls := .type "dict", data := .dict #[] } [] := ⟨sm, ⟨rfl, rfl, rfl⟩, #[], 0, [], rfl, rfl, List.nodup_nil, .nil⟩
  have new : ObjOk X.prog X.w (upd H s.heap.objs.size (dtO s.heap.objs.size { cls := .type "dict", data := .dict #[] })) (s.heap.push { cls := .type "dict", data := .dict #[] }) s.heap.objs.size (dtO s.heap.objs.size { cls := .type "dict", data := .dict #[] }) :=
    ⟨Heap.get?_push_size _ rfl, ⟨_, Heap.get?_push_size _ rfl⟩, fun h1 h2 z w => w _ z⟩
  refine wpAny_Dict_empty ⟨.ref s.heap.objs.size, _, I.laid (a := s.heap.objs.size) (o := dtO s.heap.objs.size { cls := .type "dict", data := .dict #[] }) (t' := s.toks) (fun _ _ q => Heap.get?_push_of_some _ q) (Nat.le_refl _) new, rfl, ?_⟩
  have h : DPost F L AL ρ σ H [] true Q (.ok (rdict []) st) := h
  exact h _ _ (R.same (same_upd hn)) (.of_same (same_upd hn)) (.dit upd_same ⟨R.notZ hn, .inl hn⟩ (Nat.zero_le _) ob .nil) fun _ _ => ⟨_, _, rfl, hn, upd_same, .dT (Nat.zero_le _) ob .nil⟩⟩
def ItT (d : Addr) (o : Obj) (ks : List (List Int × Addr × V)) : It :=
  ⟨fun i H => H d = some (dtO d o) ∧ i < ks.length, fun i H x H' => H' = H ∧ ∃ k b v, ks[i]? = some (k, b, v) ∧ x = .ref b, fun i H => H d = some (dtO d o) ∧ ks.length ≤ i⟩
theorem prk_get {ks : List (List Int × Addr × V)} {xs : List (List Key × Addr × Value)} (p : PrK ks xs) {i : Nat} {z : List Int × Addr × V} (h : ks[i]? = some z) : ∃ q, xs[i]? = some q ∧ q.2.1 = z.2.1 := by
  induction p generalizing i with
  | nil => simp at h
  | cons hq t ih =>
    cases i with
    | zero =>
      simp at h
      subst h
      exact ⟨_, rfl, hq.2.1⟩
    | succ i =>
      rw [List.getElem?_cons_succ] at h
      obtain ⟨q, h1, h2⟩ := ih h
      exact ⟨q, by rw [List.getElem?_cons_succ]; exact h1, h2⟩
section
variable {P : Program} {w : World} {K : PySem.W.Frag} {tg : Expr} {d : Addr} {o : Obj} {es : Array DictEntry} {ep : Nat}
theorem turn_rows {G : Gd} {ks : List (List Int × Addr × V)} {xs : List (List Key × Addr × Value)} (it : Addr) (ob : DtObj G d o ks) (hod : o.data = .dict es ep) (hes : es.toList = xs.map (entryOfKey (tupleKind (mixKind G.P G.w)))) (pr : PrK ks xs) :
    Turn P w K tg (ItT d o ks) [it] it (fun i h => h.IsKeyIter it d i ks.length ep) where
  mem := by simp
  obj := fun i h st b hb => by
    obtain rfl : b = it := by simpa using hb
    obtain ⟨oi, e, c, dd⟩ := st
    exact ⟨oi, e, fun v z => by rw [dd] at z; cases z⟩
  keep := fun i h h' st k => st.at fun oi e => k it (by simp) oi e
  item := by
    intro X hP hw hK hc i pins s σ H E I hf st hg
    subst hP hw hK
    obtain ⟨hd, hi⟩ := hg
    obtain ⟨f0, f1, f2, f3, f4, f5⟩ := hf it (by simp)
    have hgd : s.heap.get? d = some o := (show ObjOk X.prog X.w H s.heap d (dtO d o) from I.hok d _ hd).1
    have hsz : es.size = ks.length := by
      have := congrArg List.length hes
      rw [List.length_map] at this
      rw [← Array.length_toList, this]
      exact (Paired.length pr).symm
    have hki : ks[i]? = some ks[i] := List.getElem?_eq_getElem hi
    obtain ⟨q, hq, hb⟩ := prk_get pr hki
    have hen : es[i]? = some (entryOfKey (tupleKind (mixKind G.P G.w)) q) := by
      rw [← Array.getElem?_toList, hes, List.getElem?_map, hq]
      rfl
    refine next_key_item st hgd hod hsz hen fun h' st' sb => ?_
    have I1 : Inv X pins σ H { s with heap := h' } := I.turned (t' := s.toks) (fun b c hb e => (sb.2 b hb).trans e) f0 f1 f3 f4 f5
    obtain ⟨oi, e, c, dd⟩ := id st'
    refine ⟨_, rfl, go_of (s := { s with heap := h' }) e c dd (by decide) ⟨.ref q.2.1, H, I1, rfl, ⟨rfl, ks[i].1, ks[i].2.1, ks[i].2.2, hki, by rw [hb]⟩, st', fun b hb => (hf b hb).1⟩⟩
  done := by
    intro X hP hw hK hc i pins s σ H E I hf st hg
    subst hP hw hK
    obtain ⟨hd, hi⟩ := hg
    obtain ⟨f0, f1, f2, f3, f4, f5⟩ := hf it (by simp)
    have hgd : s.heap.get? d = some o := (show ObjOk X.prog X.w H s.heap d (dtO d o) from I.hok d _ hd).1
    have hsz : es.size = ks.length := by
      have := congrArg List.length hes
      rw [List.length_map] at this
      rw [← Array.length_toList, this]
      exact (Paired.length pr).symm
    exact next_key_end (I.ok.hd hc) st hgd hod hsz hi fun h' eb => ⟨rfl, I.turned (t' := s.toks) (fun b c hb e => eb b c hb e) f0 f1 f3 f4 f5⟩
  self := fun A i s Q E st h => by
    refine wpAny_pyIter_slot st.typeIs F.slot_dict_keyiterator_iter (wpAny_call_entry F.slot_dict_keyiterator_iter st.typeIs F.entry_dict_keyiterator_iter ?_ (F.args_dict_keyiterator_iter_1 _))
    show wpAny _ _ (ret (.ref it)) _ _ s
    exact wpAny_pure ⟨_, rfl, "dict_keyiterator", _, st.typeIs, F.slot_dict_keyiterator_next.lookup, h⟩
end
theorem RepT.key {G : Gd} {L : List Addr} {H : Hp} {A : Addr → Prop} : ∀ {ds : List (PyData × PyData)} {ks : List (List Int × Addr × V)} {i : Nat} {k : List Int} {b : Addr} {v : V}, RepT G L H A ds ks → ks[i]? = some (k, b, v) → ∃ d, (ds.map (·.1))[i]? = some d ∧ Rep G L H A d (.ref b)
  | _, _, _, _, _, _, .nil, h => by simp at h
  | _, _, 0, _, _, _, .cons t n r u, h => by
    simp at h
    obtain ⟨rfl, rfl, rfl⟩ := h
    exact ⟨_, rfl, .tup t (by simpa using n) (reps_ints _)⟩
  | _, _, i + 1, _, _, _, .cons t n r u, h => by
    rw [List.getElem?_cons_succ] at h
    exact RepT.key (i := i) u h
theorem walk_rows {G : Gd} {L : List Addr} {A : Addr → Prop} {H : Hp} {a : Addr} {o : Obj} {ks : List (List Int × Addr × V)} {ds : List (PyData × PyData)} (ha : A a) (h : H a = some (dtO a o)) (r : RepT G L H A ds ks) : DWalk G L A false (ItT a o ks) H (ds.map (·.1)) := by
  have hl := r.length
  refine ⟨fun H => H a = some (dtO a o) ∧ RepT G L H A ds ks, ⟨h, r⟩, fun H H' s k => ⟨k _ _ s.1 (fun _ => ha) rfl, s.2.keep k⟩, fun i H hi s => ?_, fun H s => ?_, fun i H x H' hi s y => ?_⟩
  · exact ⟨s.1, by rw [← hl]; simpa using hi⟩
  · exact ⟨s.1, by rw [← hl]; simp⟩
  · obtain ⟨rfl, k, b, v, hk, rfl⟩ := y
    refine ⟨fun _ _ z => z, ?_⟩
    obtain ⟨_, r2⟩ := s
    obtain ⟨d, h1, h2⟩ := r2.key hk
    exact ⟨d, h1, .rep h2⟩
def keysD (c : PyData) : Option (List PyData) := (rdOf c).map fun ds => ds.map (·.1)
def iKeysD (f : DE) : DI := fun ρ st => (f ρ st).bind fun d st => .of (keysD d) st
section
variable {X : Cx} {F : Fx} {M : List Nat} {fr : Bool} {e tg : Expr} {f : DE}
theorem pi_keysD (hl : PE X e (tD F M fr f)) (hK : F.G.K = X.K) (hP : F.G.P = X.prog ∧ F.G.w = X.w) : PI X tg e (tI F false M (iKeysD f)) := by
  refine ⟨fun pins s σ H R I ⟨L, AL, ρ, st, Rl, h⟩ => ?_⟩
  refine thn (hl.run pins s σ H _ I (tD_bind (P := IPost F L AL ρ σ H false M R) (Q1 := fun v H1 => ∃ a o ks, v = .ref a ∧ H1 a = some (dtO a o) ∧ DtObj F.G a o ks ∧ R (ItT a o ks) H1) Rl h (fun x st' h => h) (fun h => h) fun d st1 v H1 R1 E1 rd _ h => ?_)) ?_
  · have h : IPost F L AL ρ σ H false M R (.of (keysD d) st1) := h
    cases q : rdOf d with
    | none =>
      unfold keysD at h
      rw [q] at h
      exact h.elim
    | some ds =>
      unfold keysD at h
      rw [q] at h
      rw [rdOf_eq q] at rd
      cases rd with
      | dic h1 z n r => exact r.noNone.elim
      | dit h1 z n o r =>
        have r' := r.imp (A' := fun b => AP (L ++ F.Z) ρ σ M H b ∧ H1 b ≠ none) fun b k nz => ⟨k, nz⟩
        exact ⟨_, _, _, rfl, h1, o, h _ H1 R1 E1 (walk_rows ⟨z, by rw [h1]; exact fun q => nomatch q⟩ h1 r')⟩
  · rintro v s1 ⟨x, H1, I1, r1, a, o, ks, rfl, h1, ob, q⟩
    cases r1
    obtain ⟨es, ep, xs, e1, e2, e3, e4⟩ := ob.es
    have hgd : s1.heap.get? a = some o := (show ObjOk X.prog X.w H1 s1.heap a (dtO a o) from I1.hok a _ h1).1
    have hsz : es.size = ks.length := by
      have := congrArg List.length e2
      rw [List.length_map] at this
      rw [← Array.length_toList, this]
      exact (Paired.length e4).symm
    refine iter_keys ob.sm hgd ob.ex e1 (pi_one (tk := s1.toks) I1 _ (turn_rows _ ob e1 e2 e4) ⟨_, Heap.get?_push_size _ rfl, rfl, ?_⟩ q)
    rw [hsz] <;> rfl
end
end Ev
end

section
set_option maxRecDepth 100000
set_option maxHeartbeats 2000000
namespace Ev
open PySem PySem.Spec PyProof.Rows L2

/-! ### t[a:b:c], t a tuple -/
def stepL {γ : Type} (xs : List γ) (lo hi : Option Int) (st : Int) : List γ :=
  (List.range (Builtin.Slice.slicePlaces (Builtin.Slice.sliceAdjust lo hi st xs.length).1 (Builtin.Slice.sliceAdjust lo hi st xs.length).2 st)).filterMap fun (k : Nat) => xs[((Builtin.Slice.sliceAdjust lo hi st xs.length).1 + (k : Int) * st).toNat]?
section
variable {prog : Program} {w : World} {A : Around} {E : Value → Shared → Prop} {s : Shared}
theorem applied_step {sl : Addr} {vl vu vs : Value} {lo hi : Option Int} {st : Int} {n : Nat} {Q : Int × Int × Nat → Shared → Prop} (hs : s.heap.IsSliceOf sl vl vu vs) (pl : IsPart vl lo) (pu : IsPart vu hi) (ps : IsPart vs (some st)) (h0 : st ≠ 0)
    (h : Q ((Builtin.Slice.sliceAdjust lo hi st n).1, st, Builtin.Slice.slicePlaces (Builtin.Slice.sliceAdjust lo hi st n).1 (Builtin.Slice.sliceAdjust lo hi st n).2 st) s) :
    wpAny (model prog w) A (Builtin.Slice.sliceApplied (.ref sl) (pure (n : Int))) Q E s := by
  obtain ⟨ob, g1, g2, g3⟩ := id hs
  unfold Builtin.Slice.sliceApplied Builtin.Slice.sliceFields
  refine wpAny_bind (wpAny_bind (wpAny_field g1 g3 (x := vl) rfl (wpAny_bind (wpAny_field g1 g3 (x := vu) rfl (wpAny_bind (wpAny_field g1 g3 (x := vs) rfl (wpAny_pure ?_)))))))
  refine wpAny_bind (HT.slicePart_ ps ?_)
  show wpAny _ _ (if (st == 0) = true then _ else _) _ _ s
  rw [if_neg (by simpa using h0)]
  refine wpAny_bind (HT.slicePart_ pl (wpAny_bind (HT.slicePart_ pu (wpAny_bind (wpAny_pure ?_)))))
  exact wpAny_pure h
theorem getItem_tuple_step {t sl : Addr} {items : Array Value} {vl vu vs : Value} {lo hi : Option Int} {st : Int} {Q : Value → Shared → Prop} (ht : IsTup s.heap t items) (hs : s.heap.IsSliceOf sl vl vu vs) (pl : IsPart vl lo) (pu : IsPart vu hi) (ps : IsPart vs (some st)) (h0 : st ≠ 0) (h1 : st ≠ 1)
    (h : Q (.ref s.heap.objs.size) { s with heap := s.heap.push { cls := .type "tuple", data := .seq (stepL items.toList lo hi st).toArray } })
    (hz : (stepL items.toList lo hi st).length ≤ sizeLine) : wpAny (model prog w) A (getItem (.ref t) (.ref sl)) Q E s := by
  have hok : sizeOk (.seq (stepL items.toList lo hi st).toArray) := by
    show (stepL items.toList lo hi st).toArray.size ≤ sizeLine
    rw [List.size_toArray]
    exact hz
  obtain ⟨ob, g1, g2, g3⟩ := id hs
  have hT : s.TypeIs (.ref sl) "slice" := ⟨ob, g1, g2⟩
  unfold getItem
  try with_reducible refine wpAny_holding ?_
  first | refine wpAny_bind (wpAny_pure ?_) | skip
  refine wpAny_bind (wpAny_sequenceKey ht.typeIs (by decide) ?_)
  refine wpAny_bind (wpAny_callSpecial?_slot (name := Str.ofString "__getitem__") ht.typeIs PyProof.Rows.slot_tuple_getitem
    (wpAny_call_entry PyProof.Rows.slot_tuple_getitem ht.typeIs entry_tuple_getitem ?_ (args_tuple_getitem _ _)))
  show wpAny _ _ (Builtin.Tuple.tupleItemsOf (.ref t) >>= _) _ _ s
  refine wpAny_bind (PyProof.Rows.tupleItemsOf_ ht ?_)
  refine wpAny_bind (wpAny_typeOf hT ?_)
  rw [if_pos (by decide)]
  refine wpAny_bind (applied_step hs pl pu ps h0 ?_)
  have e : (List.range (Builtin.Slice.slicePlaces (Builtin.Slice.sliceAdjust lo hi st items.size).1 (Builtin.Slice.sliceAdjust lo hi st items.size).2 st)).filterMap (fun (k : Nat) => items[((Builtin.Slice.sliceAdjust lo hi st items.size).1 + (k : Int) * st).toNat]?) = stepL items.toList lo hi st := by
    unfold stepL
    rw [Array.length_toList]
    congr 1
    funext k
    exact (Array.getElem?_toList ..).symm
  show wpAny _ _ (if ((Builtin.Slice.sliceAdjust lo hi st items.size).1 == 0 && st == 1 && _ == items.size) = true then _ else _) _ _ s
  rw [if_neg (by
    intro z
    rw [Bool.and_eq_true, Bool.and_eq_true] at z
    exact h1 (eq_of_beq z.1.2)), e]
  first
    | exact wpAny_bind (m := Builtin.Tuple.tupleExact _) (wpAny_newObj_type (wpAny_pure ⟨_, rfl, wpAny_pure h⟩) hok)
    | exact wpAny_bind (m := Builtin.Tuple.tupleExact _) (wpAny_newObj_type (wpAny_bind (wpAny_pure (wpAny_pure ⟨_, rfl, wpAny_pure h⟩))) hok)
    | exact wpAny_bind (wpAny_bind (m := Builtin.Tuple.tupleExact _) (wpAny_newObj_type (wpAny_pure (wpAny_pure ⟨_, rfl, wpAny_pure h⟩)) hok))
    | exact wpAny_bind (wpAny_bind (m := Builtin.Tuple.tupleExact _) (wpAny_newObj_type (wpAny_pure ⟨_, rfl, wpAny_pure h⟩) hok))
end
theorem pick_vals (f : Nat → Nat) {vs : List V} {us : List Value} (r : Vals vs us) : ∀ ks : List Nat, Vals (ks.filterMap fun k => vs[f k]?) (ks.filterMap fun k => us[f k]?)
  | [] => .nil
  | k :: ks => by
    rw [List.filterMap_cons, List.filterMap_cons]
    cases h : vs[f k]? with
    | none =>
      rw [r.none_of h]
      exact pick_vals f r ks
    | some v =>
      obtain ⟨u, h1, h2⟩ := r.get h
      rw [h1]
      exact .cons h2 (pick_vals f r ks)
theorem pick_reps {G : Gd} {L : List Addr} {H : Hp} {A : Addr → Prop} (f : Nat → Nat) {ds : List PyData} {vs : List V} (r : Reps G L H A ds vs) : ∀ ks : List Nat, Reps G L H A (ks.filterMap fun k => ds[f k]?) (ks.filterMap fun k => vs[f k]?)
  | [] => .nil
  | k :: ks => by
    rw [List.filterMap_cons, List.filterMap_cons]
    cases h : ds[f k]? with
    | none =>
      have : vs[f k]? = none := by
        rw [List.getElem?_eq_none_iff] at h ⊢
        rw [← r.length]
        exact h
      rw [this]
      exact pick_reps f r ks
    | some v =>
      obtain ⟨u, h1, h2⟩ := r.get' h
      rw [h1]
      exact .cons h2 (pick_reps f r ks)
def stepD (d : PyData) (lo hi st : Option Int) : Option PyData := match d, st with
  | .tuple ds, some k => if k = 0 ∨ k = 1 ∨ ¬ (stepL ds lo hi k).length ≤ sizeLine then none else some (.tuple (stepL ds lo hi k))
  | _, _ => none
def eSt (f : DE) (lo hi so : DO) : DE := fun ρ st => (f ρ st).bind fun d st => (lo ρ st).bind fun l st => (hi ρ st).bind fun h st => (so ρ st).bind fun k st => .of (stepD d l h k) st
section
variable {X : Cx} {F : Fx} {M : List Nat} {fr : Bool} {e : Expr} {f : DE} {pos p2 : Pos}
theorem pe_stD {l h so : DO} (hK : F.G.K = X.K) {elo ehi : Option Expr} {est : Expr} (he : PE X e (tD F M fr f)) (hl : PO X elo (tOD F l)) (hu : PO X ehi (tOD F h)) (hso : PO X (some est) (tOD F so)) (hsub : ∀ o i : Value, subscripted (.Slice elo ehi (some est) p2) false o i = operate [o, i] (getItem o i) := by intro _ _; with_unfolding_all rfl) : PE X (.Subscript e (.Slice elo ehi (some est) p2) pos) (tD F M true (eSt f l h so)) := by
  refine ⟨fun pins s σ H Q I ⟨L, AL, ρ, st, R, hh⟩ => ?_⟩
  refine Subscript_ (thn (he.run pins s σ H (fun v H1 => ∃ d st1, Rel F L AL ρ st1 σ H1 ∧ Ext L H H1 ∧ Rep F.G L H1 (AP (L ++ F.Z) ρ σ M H) d v ∧ DPost F L AL ρ σ H M true Q ((l ρ st1).bind fun l st => (h ρ st).bind fun h st => (so ρ st).bind fun k st => .of (stepD d l h k) st)) I
    (tD_bind (P := DPost F L AL ρ σ H M true Q) R hh (fun x st' h => h) (fun h => h) fun d st1 v H1 R1 E1 rd _ hh => ⟨d, st1, R1, E1, rd, hh⟩)) fun v s1 ⟨x, H1, I1, r1, d, st1, R1, E1, rd, hh⟩ => ?_)
  refine wpAny_Slice (thn (hl.run pins s1 σ H1 (fun o H2 => ∃ st2, Rel F L AL ρ st2 σ H2 ∧ Ext L H1 H2 ∧ DPost F L AL ρ σ H M true Q ((h ρ st2).bind fun h st => (so ρ st).bind fun k st => .of (stepD d o h k) st)) I1
    (tOD_bind (P := DPost F L AL ρ σ H M true Q) R1 hh (fun x st' h cls dd H' R' E' xr => h cls dd H' R' (E1.trans E') xr) (fun h => h) fun b st2 H2 R2 E2 hh => ⟨st2, R2, E2, hh⟩)) fun vl s2 ⟨lo, H2, I2, pl, st2, R2, E2, hh⟩ => ?_)
  refine thn (hu.run pins s2 σ H2 (fun o H3 => ∃ st3, Rel F L AL ρ st3 σ H3 ∧ Ext L H2 H3 ∧ DPost F L AL ρ σ H M true Q ((so ρ st3).bind fun k st => .of (stepD d lo o k) st)) I2
    (tOD_bind (P := DPost F L AL ρ σ H M true Q) R2 hh (fun x st' h cls dd H' R' E' xr => h cls dd H' R' ((E1.trans E2).trans E') xr) (fun h => h) fun b st3 H3 R3 E3 hh => ⟨st3, R3, E3, hh⟩)) fun vu s3 ⟨hi, H3, I3, pu, st3, R3, E3, hh⟩ => ?_
  refine thn (hso.run pins s3 σ H3 (fun o H4 => ∃ st4 k w ds, Rel F L AL ρ st4 σ H4 ∧ Ext L H3 H4 ∧ o = some k ∧ k ≠ 0 ∧ k ≠ 1 ∧ (stepL ds lo hi k).length ≤ sizeLine ∧ d = .tuple ds ∧ w = .tuple (stepL ds lo hi k) ∧ DPost F L AL ρ σ H M true Q (.ok w st4)) I3
    (tOD_bind (P := DPost F L AL ρ σ H M true Q) R3 hh (fun x st' h cls dd H' R' E' xr => h cls dd H' R' (((E1.trans E2).trans E3).trans E') xr) (fun h => h) fun b st4 H4 R4 E4 hh => ?_)) fun vs s4 ⟨o, H4, I4, ps, st4, k, w, ds, R4, E4, eo, k0, k1, kz, ed, ew, hh⟩ => ?_
  · have hh : DPost F L AL ρ σ H M true Q (.of (stepD d lo hi b) st4) := hh
    cases d with
    | tuple ds =>
      cases b with
      | none => exact hh.elim
      | some k =>
        have hh : DPost F L AL ρ σ H M true Q (.of (if k = 0 ∨ k = 1 ∨ ¬ (stepL ds lo hi k).length ≤ sizeLine then none else some (.tuple (stepL ds lo hi k))) st4) := hh
        by_cases z : k = 0 ∨ k = 1 ∨ ¬ (stepL ds lo hi k).length ≤ sizeLine
        · rw [if_pos z] at hh; exact hh.elim
        · rw [if_neg z] at hh
          simp only [not_or, Classical.not_not] at z
          exact ⟨st4, k, _, ds, R4, E4, rfl, z.1, z.2.1, z.2.2, rfl, rfl, hh⟩
    | _ => exact hh.elim
  · subst eo ed ew
    have rd4 := rd.later R1 ((E2.trans E3).trans E4)
    have E5 := ((E1.trans E2).trans E3).trans E4
    cases rd4 with
    | @tup a xs _ t n q =>
      cases r1
      have I5 : Inv X pins σ H4 { s4 with heap := s4.heap.push { cls := .type "slice", data := .fields #[vl, vu, vs] } } := I4.kept (t' := s4.toks) fun b ob q => Heap.get?_push_of_some _ q
      have hx : SqT X.K H4 a xs := by rw [← hK]; exact t.sq
      obtain ⟨us, rv, ht, hz⟩ := I5.tuple hx
      have hlu : us.length = ds.length := by rw [← rv.length, ← q.length]
      have el : (stepL us lo hi k).length ≤ sizeLine ∧ Vals ((List.range (Builtin.Slice.slicePlaces (Builtin.Slice.sliceAdjust lo hi k ds.length).1 (Builtin.Slice.sliceAdjust lo hi k ds.length).2 k)).filterMap fun (j : Nat) => xs[((Builtin.Slice.sliceAdjust lo hi k ds.length).1 + (j : Int) * k).toNat]?) (stepL us lo hi k) := by
        have v := pick_vals (fun j => ((Builtin.Slice.sliceAdjust lo hi k ds.length).1 + (j : Int) * k).toNat) rv (List.range (Builtin.Slice.slicePlaces (Builtin.Slice.sliceAdjust lo hi k ds.length).1 (Builtin.Slice.sliceAdjust lo hi k ds.length).2 k))
        have r := pick_reps (fun j => ((Builtin.Slice.sliceAdjust lo hi k ds.length).1 + (j : Int) * k).toNat) q (List.range (Builtin.Slice.slicePlaces (Builtin.Slice.sliceAdjust lo hi k ds.length).1 (Builtin.Slice.sliceAdjust lo hi k ds.length).2 k))
        have e : stepL us lo hi k = (List.range (Builtin.Slice.slicePlaces (Builtin.Slice.sliceAdjust lo hi k ds.length).1 (Builtin.Slice.sliceAdjust lo hi k ds.length).2 k)).filterMap fun (j : Nat) => us[((Builtin.Slice.sliceAdjust lo hi k ds.length).1 + (j : Int) * k).toNat]? := by
          unfold stepL
          rw [hlu]
        rw [e]
        refine ⟨?_, v⟩
        rw [← v.length, ← r.length]
        exact kz
      have r := pick_reps (fun j => ((Builtin.Slice.sliceAdjust lo hi k ds.length).1 + (j : Int) * k).toNat) q (List.range (Builtin.Slice.slicePlaces (Builtin.Slice.sliceAdjust lo hi k ds.length).1 (Builtin.Slice.sliceAdjust lo hi k ds.length).2 k))
      show wpAny (model X.prog X.w) X.A (subscriptTail e (.Slice elo ehi (some est) p2) (.ref a) (.ref s4.heap.objs.size)) (EP X pins σ Q) X.xe { s4 with heap := s4.heap.push { cls := .type "slice", data := .fields #[vl, vu, vs] } }
      refine tail_any (ops := [.ref a, .ref s4.heap.objs.size]) ht.typeIs PyProof.Rows.slot_tuple_getitem.lookup ?_ (hsub _ _)
      refine getItem_tuple_step ht (Heap.IsSliceOf.new _ vl vu vs) pl pu ps k0 k1 ?_ el.1
      have hn := I5.hok.fresh (Nat.le_refl _)
      refine ⟨.ref _, _, I5.tnew (t' := s4.toks) el.2 (by rw [el.2.length]; exact el.1), rfl, ?_⟩
      refine hh _ _ (R4.same (same_upd hn)) (E5.trans (.of_same (same_upd hn))) (.tup (.inl ⟨_, upd_same, rfl⟩) (by rw [el.2.length]; exact el.1) (r.keep fun b o hb _ _ => same_upd hn b o hb)) fun _ z => nomatch z
end

/-! ### x.extend([..]) -/
def sExt (i : Nat) (M : List Nat) (fr : Bool) (f : DE) : DS := fun ρ st => if (rdL i ρ st).isSome = true then eS (f ρ st) fun d st => match rdL i (dropFor M fr d ρ) st, d with
  | some (ds, w), .list es => if ds.length + es.length ≤ sizeLine ∧ (w = none ∨ noLs es = true) then putL i w (ds ++ es) (dropFor M fr d ρ) st else .stuck
  | _, _ => .stuck else .stuck
section
variable {X : Cx} {F : Fx} {M : List Nat} {fr : Bool} {e : Expr} {f : DE} {pos p ap cp : Pos}
theorem ps_extD {i : Nat} {x : Str} (hN : X.N[i]? = some x) (hv : Vis X.env.scope x) (he : PE X e (tD F M fr f)) (hd : (x == ("__debug__" : Str)) = false := by decide) (hcd : (x == ("__classdict__" : Str)) = false := by decide)
    (hs : swapsWith (.Call (.Attribute (.Name x p) "extend" ap) [e] [] cp) none pos.line X.env = pure false := by rfl) (hbase : attributeBase (.Name x p) "extend" X.env (eval (.Name x p) X.env) = eval (.Name x p) X.env := by rfl)
    (hfew : ((backTo cp (starEach [e] X.env)).all (fun x => !x.1) && (backToKw cp (keywordEach [] X.env)).all (fun x => x.1.isSome) && decide ([e].length + ([] : List Keyword).length + (if ([] : List Keyword).isEmpty then 0 else 1) < 30)) = true := by rfl)
    (hline : (ap.endLine == cp.line) = true := by rfl) (hs1 : starEach [e] X.env = (false, eval e X.env) :: starEach [] X.env := by rfl) (hplain : (backTo cp (starEach [] X.env)).any (·.1) = false := by rfl) :
    PS X (.Expr (.Call (.Attribute (.Name x p) "extend" ap) [e] [] cp) pos) (tS F (sExt i M fr f)) :=
  (ps_expr (pe_bm PySem.F.plainAttrs_list PySem.F.slot_list_extend PySem.F.type_list_extend mt_extend (pe_var hN hv hd hcd) (pa_cons he pa_nil hs1) hbase hfew hline hs1 hplain) hs).imp fun D σ H ⟨L, AL, ρ, st, R, h⟩ => by
    have h' : ∃ z, rdL i ρ st = some z ∧ SPost F L AL ρ σ H D (eS (f ρ st) fun d st => match rdL i (dropFor M fr d ρ) st, d with
        | some (ds, w), .list es => if ds.length + es.length ≤ sizeLine ∧ (w = none ∨ noLs es = true) then putL i w (ds ++ es) (dropFor M fr d ρ) st else .stuck
        | _, _ => .stuck) := by
      unfold sExt at h
      cases hr : rdL i ρ st with
      | none => rw [hr] at h; exact h.elim
      | some z =>
        rw [hr] at h
        exact ⟨z, rfl, h⟩
    obtain ⟨⟨ds0, w0⟩, hr, h⟩ := h'
    obtain ⟨a, vs, h1, h2, _⟩ := rdL_ref R hr
    refine ⟨.ref a, h1, tyL h2, ?_⟩
    refine eS_read R h fun d st1 v H1 R1 E1 r fre h => ?_
    cases q : rdL i (dropFor M fr d ρ) st1 with
    | none => rw [q] at h; exact h.elim
    | some z =>
      obtain ⟨ds, w⟩ := z
      rw [q] at h
      cases d with
      | list es =>
        have h : SPost F L AL ρ σ H D (if ds.length + es.length ≤ sizeLine ∧ (w = none ∨ noLs es = true) then putL i w (ds ++ es) (dropFor M fr (.list es) ρ) st1 else .stuck) := h
        by_cases hl : ds.length + es.length ≤ sizeLine ∧ (w = none ∨ noLs es = true)
        · rw [if_pos hl] at h
          have Rd := R1.dropFor M fr (.list es)
          obtain ⟨a', vs', A0, k1, k2, k3, k4, k5, k6, k7⟩ := rdL_at Rd q
          rw [h1] at k1
          cases k1
          have rv : ∃ b zs, v = .ref b ∧ H1 b = some (.lst zs) ∧ Reps F.G L H1 A0 es zs := by
            rcases hl.2 with z | z
            · have t := told_nu R r fre
              rw [← k5 z] at t
              cases t with
              | lst t1 t2 t3 => exact ⟨_, _, rfl, t1.1, t3⟩
            · cases r with
              | lst t1 t2 t3 => exact ⟨_, _, rfl, t1.1, t3.free z⟩
          obtain ⟨b, zs, rfl, hb, rz⟩ := rv
          have hlv : vs'.length + zs.length ≤ sizeLine := by rw [← k4.length, ← rz.length]; exact hl.1
          obtain ⟨ρ', st', e1, R', fm⟩ := k7 _ _ (k4.append rz) (by rw [List.length_append]; exact hlv)
          rw [e1] at h
          exact ⟨a, b, vs', zs, rfl, rfl, k2, hb, hlv, h σ _ R' (((E1.frm R).trans (Frm.dropFor M fr (.list es))).trans fm)⟩
        · rw [if_neg hl] at h
          exact h.elim
      | _ => exact h.elim
end
end Ev
end

section
set_option maxRecDepth 100000
set_option maxHeartbeats 2000000
namespace Ev
open PySem PySem.Spec PyProof.Rows L2

/-! ### x = y, y's own list goes over to x -/
def sMove (i j : Nat) : DS := fun ρ st => match ρ[j]? with
  | some (some (d, true)) => if i < ρ.length ∧ i ≠ j then .nx ((ρ.set j none).set i (some (d, true))) st else .stuck
  | _ => .stuck
section
variable {F : Fx} {L : List Addr} {AL : Addr → Prop} {ρ : EnvD} {st : Store} {σ : L2.St} {H : Hp}
theorem Rel.move (R : Rel F L AL ρ st σ H) {i j : Nat} {d : PyData} {a : Addr} (hj : ρ[j]? = some (some (d, true))) (ha : σ[j]? = some (some (.ref a))) (hi : i < ρ.length) (hij : i ≠ j) :
    Rel F L AL ((ρ.set j none).set i (some (d, true))) st (σ.set i (some (.ref a))) H ∧ Frm F L ρ σ H ((ρ.set j none).set i (some (d, true))) (σ.set i (some (.ref a))) H := by
  have hjl : j < ρ.length := (List.getElem?_eq_some_iff.mp hj).1
  have hiσ : i < σ.length := by rw [← R.len]; exact hi
  have at_i : ((ρ.set j none).set i (some (d, true)))[i]? = some (some (d, true)) := by rw [List.getElem?_set_self (by rw [List.length_set]; exact hi)]
  have at_j : ((ρ.set j none).set i (some (d, true)))[j]? = some none := by rw [List.getElem?_set_ne hij, List.getElem?_set_self hjl]
  have at_k : ∀ k, k ≠ i → k ≠ j → ((ρ.set j none).set i (some (d, true)))[k]? = ρ[k]? := fun k h1 h2 => by rw [List.getElem?_set_ne (Ne.symm h1), List.getElem?_set_ne (Ne.symm h2)]
  have s_i : (σ.set i (some (.ref a)))[i]? = some (some (.ref a)) := List.getElem?_set_self hiσ
  have s_k : ∀ k, k ≠ i → (σ.set i (some (.ref a)))[k]? = σ[k]? := fun k h1 => List.getElem?_set_ne (Ne.symm h1)
  have own : ∀ k b, OwnAt ((ρ.set j none).set i (some (d, true))) (σ.set i (some (.ref a))) k b → (k = i ∧ b = a) ∨ (k ≠ i ∧ k ≠ j ∧ OwnAt ρ σ k b) := fun k b ⟨⟨d', e1⟩, e2⟩ => by
    by_cases h1 : k = i
    · subst h1
      rw [s_i] at e2
      cases e2
      exact .inl ⟨rfl, rfl⟩
    · by_cases h2 : k = j
      · subst h2
        rw [at_j] at e1
        cases e1
      · rw [at_k k h1 h2] at e1
        rw [s_k k h1] at e2
        exact .inr ⟨h1, h2, ⟨d', e1⟩, e2⟩
  have nu : ∀ b, NU (L ++ F.Z) ρ σ b → NU (L ++ F.Z) ((ρ.set j none).set i (some (d, true))) (σ.set i (some (.ref a))) b := fun b k => ⟨k.1, fun m hm => by
    rcases own m b hm with ⟨_, rfl⟩ | ⟨_, _, h⟩
    · exact k.2 j ⟨⟨d, hj⟩, ha⟩
    · exact k.2 m h⟩
  refine ⟨⟨by simp [R.len], fun k d' e => ?_, fun k d' e => ?_, fun k m b h1 h2 => ?_, R.ext, R.lx, R.lnd, R.ll, R.cell, fun b h => ⟨(R.al b h).1, fun m hm => ?_⟩, R.ald, R.tab, R.zt, by simp [R.nn]⟩, ⟨fun b hb n => ⟨fun o h _ => h, nu b n⟩, fun b o h _ _ => h, fun b h => h⟩⟩
  · by_cases h1 : k = i
    · subst h1
      rw [at_i] at e
      cases e
    · by_cases h2 : k = j
      · subst h2
        rw [at_j] at e
        cases e
      · rw [at_k k h1 h2] at e
        obtain ⟨v, e1, e2⟩ := R.val k d' e
        exact ⟨v, by rw [s_k k h1]; exact e1, e2.imp fun b z _ => nu b z⟩
  · by_cases h1 : k = i
    · subst h1
      rw [at_i] at e
      cases e
      obtain ⟨a', o, e1, e2, e3, e4, e5⟩ := R.own j d hj
      rw [ha] at e1
      cases e1
      exact ⟨a, o, s_i, e2, e3.imp fun b z _ => nu b z, e4, e5⟩
    · by_cases h2 : k = j
      · subst h2
        rw [at_j] at e
        cases e
      · rw [at_k k h1 h2] at e
        obtain ⟨a', o, e1, e2, e3, e4, e5⟩ := R.own k d' e
        exact ⟨a', o, by rw [s_k k h1]; exact e1, e2, e3.imp fun b z _ => nu b z, e4, e5⟩
  · rcases own k b h1 with ⟨rfl, rfl⟩ | ⟨k1, k2, k3⟩
    · rcases own m b h2 with ⟨rfl, _⟩ | ⟨m1, m2, m3⟩
      · rfl
      · exact (m2 (R.ne m j b m3 ⟨⟨d, hj⟩, ha⟩)).elim
    · rcases own m b h2 with ⟨rfl, rfl⟩ | ⟨m1, m2, m3⟩
      · exact (k2 (R.ne k j b k3 ⟨⟨d, hj⟩, ha⟩)).elim
      · exact R.ne k m b k3 m3
  · rcases own m b hm with ⟨_, rfl⟩ | ⟨_, _, k3⟩
    · exact (R.al b h).2 j ⟨⟨d, hj⟩, ha⟩
    · exact (R.al b h).2 m k3
end
section
variable {X : Cx} {F : Fx} {pos pos' p : Pos}
theorem ps_moveD {i j : Nat} {x y : Str} (hN : X.N.Nodup) (hi : X.N[i]? = some x) (hx : Loc X.env.scope x) (hj : X.N[j]? = some y) (hv : Vis X.env.scope y) (hd : (y == ("__debug__" : Str)) = false := by decide) (hcd : (y == ("__classdict__" : Str)) = false := by decide)
    (hs : swapsWith (.Name y p) (some (.Name x pos')) pos.line X.env = pure false := by rfl) (hf : X.fn x = true ∨ X.env.scope.names.lookup x = some .local := by first | exact .inl rfl | exact .inr rfl | assumption) :
    PS X (.Assign [.Name x pos'] (.Name y p) pos) (tS F (sMove i j)) := (ps_set hN hi hx (pe_var hj hv hd hcd) hs hf).imp fun D σ H ⟨L, AL, ρ, st, R, h⟩ => by
  unfold sMove at h
  split at h
  · rename_i d q
    split at h
    · rename_i hc
      obtain ⟨a, o, e1, e2, e3, e4, e5⟩ := R.own j d q
      obtain ⟨R', fm⟩ := R.move q e1 hc.1 hc.2
      exact ⟨.ref a, e1, h _ H R' fm⟩
    · exact h.elim
  · exact h.elim
end
end Ev
end

section
set_option maxRecDepth 100000
set_option maxHeartbeats 4000000
namespace Ev
open PySem PySem.Spec PyProof.Rows L2
/-! ### len(set(xs)) of whole numbers -/
def lenSetD (d : PyData) : Option PyData := (seqOf d).bind fun ds => match asInts ds with
  | some ns => if ns.length < 64 then some (.int (ns.eraseDups.length : Nat)) else none
  | none => none
theorem setR_num {w : World} {h : Heap} {a : Addr} {ns : List Int} {n : Nat} (R : SetR w h a (fun j => decide (j ∈ ns)) n) : n = ns.eraseDups.length := by
  obtain ⟨o, es, ep, t, ho, hex, hd, g, nd, hm, hb, hf, hn, hr, hl⟩ := R
  have pm : (es.toList.map keyOf).Perm ns.eraseDups := by
    rw [List.perm_ext_iff_of_nodup nd (nodup_dups _ (Nat.le_refl _))]
    intro k
    rw [← hm k, mem_dups]
    simp
  rw [← pm.length_eq, List.length_map, Array.length_toList]
  exact hn.symm
section
variable {X : Cx} {F : Fx} {M : List Nat} {fr : Bool} {a : Expr} {f : DE} {p p2 q pos : Pos} {G : Gd}
def kLS (G : Gd) (x : V) (H : Hp) (Q : VK) : Prop := ∃ L A d w, Rep G L H A d x ∧ lenSetD d = some w ∧ ∀ i : Int, w = .int i → Q (.int i) H
theorem run_LS {E : Value → Shared → Prop} {pins : List (Addr × Obj)} {σ : L2.St} {H : Hp} {s : Shared} {x : V} {v : Value} {Q : VK} (hK : G.K = X.K) (hc : X.calm = true) (hu : X.A.units + 80 < cLine) (I : Inv X pins σ H s) (rx : RelV x v) (h : kLS G x H Q) :
    wpAny (model X.prog X.w) X.A (call (.type "set") [v]) (fun u s1 => wpAny (model X.prog X.w) X.A (call (.builtin "len") [u]) (EP X pins σ Q) E s1) E s := by
  obtain ⟨L, A, d, w, r, hw, k⟩ := h
  unfold lenSetD at hw
  cases q : seqOf d with
  | none => rw [q] at hw; cases hw
  | some ds =>
    rw [q] at hw
    obtain ⟨kd, a, vs, rfl, kw⟩ := seq_rep r q
    cases rx
    obtain ⟨its, rv, hi, hz⟩ := I.seqK (by rw [← hK]; exact kw.sq)
    have hh := I.ok.hd hc
    have hw : (match asInts ds with
      | some ns => if ns.length < 64 then some (PyData.int (ns.eraseDups.length : Nat)) else none
      | none => none) = some w := hw
    cases qi : asInts ds with
    | none => rw [qi] at hw; cases hw
    | some ns =>
      rw [qi] at hw
      have hw : (if ns.length < 64 then some (PyData.int (ns.eraseDups.length : Nat)) else none) = some w := hw
      split at hw
      · rename_i few
        cases hw
        have ed := asInts_map qi
        subst ed
        have ev := Reps.ints kw.2
        subst ev
        refine ev_setInts kd ns hh hi (by simpa using rv.ints) (fewBound few) fun h' tk c R hc' kp => ?_
        have num := setR_num R
        obtain ⟨o, es, ep, t, ho, hex, hd, g, nd, hm, hb, hf, hn, hr, hl⟩ := R
        have lt : es.size < 64 := by omega
        refine call_len_set (s := { s with heap := h', toks := tk }) ho hex hd hf (by omega) ?_
        refine ⟨.int (ns.eraseDups.length : Nat), H, I.kept kp, ?_, k _ rfl⟩
        rw [← num, hn]
        exact ⟨_, rfl⟩
      · cases hw
theorem pe_lenSetD (hK : F.G.K = X.K) (hc : X.calm = true) (hu : X.A.units + 80 < cLine) (hg : Gl X "len") (hm : X.mg "len" = none) (hg2 : Gl X "set") (hm2 : X.mg "set" = none) (ha : PE X a (tD F M fr f))
    (na : starEach [a] X.env = (false, eval a X.env) :: starEach [] X.env := by rfl) : PE X (.Call (.Name "len" p) [.Call (.Name "set" p2) [a] [] q] [] pos) (tD F M false (eUn lenSetD f)) := by
  refine ⟨fun pins s σ H Q I ⟨L, AL, ρ, st, R, h⟩ => Call_ (ld_blt I hg hm boot_len (PyProof.Rows.callWith_builtin1 (PyProof.Rows.args_cons (Call_ (ld_blt I hg2 hm2 PyProof.Rows.boot_set (PyProof.Rows.callWith_type1 (PyProof.Rows.args_cons (thn (ha.run pins s σ H _ I (tD_bind (P := DPost F L AL ρ σ H M false Q) (Q1 := fun v H1 => kLS F.G v H1 Q) R h (fun x st' h => h) (fun h => h) fun d st1 v H1 R1 E1 rd _ h => ?_)) fun v s1 ⟨x, H1, I1, r1, q1⟩ => PyProof.Rows.args_nil ?_) na) na rfl))) rfl) rfl rfl))⟩
  · have h : DPost F L AL ρ σ H M false Q (.of (lenSetD d) st1) := h
    cases q : lenSetD d with
    | none => rw [q] at h; exact h.elim
    | some w =>
      rw [q] at h
      refine ⟨L, _, d, w, rd, q, fun i e => ?_⟩
      subst e
      exact h (.int i) H1 R1 E1 (.int i) fun z => nomatch z
  · exact wpAny_mono (run_LS hK hc hu I1 r1 q1) (fun u s2 h2 => PyProof.Rows.args_nil h2) fun _ _ e => e
end
end Ev
end

section
set_option maxRecDepth 100000
set_option maxHeartbeats 4000000
namespace Ev
open PySem PySem.Spec PyProof.Rows L2
/-! ### repr of what is a list or tuple, where no repr is under way -/
def okShow (d : PyData) : Bool := d.plain && d.showable && !d.hasDict && decide (d.depth + 1 ≤ 60) && decide (d.shown.length ≤ sizeLine)
def reprD : List PyData → Option PyData
  | [.list xs] => if okShow (.list xs) = true then some (.str (PyData.list xs).shown) else none
  | [.tuple xs] => if okShow (.tuple xs) = true then some (.str (PyData.tuple xs).shown) else none
  | _ => none
section
variable {X : Cx} {G : Gd}
theorem run_repr {pins : List (Addr × Obj)} {σ : L2.St} {H : Hp} {s : Shared} {L : List Addr} {A : Addr → Prop} {d : PyData} {a : Addr} {u : Value} {Q : VK} (hK : G.K = X.K) (hg : X.A.guards = some []) (hu : X.A.units + 66 < cLine) (I : Inv X pins σ H s)
    (r : Rep G L H A d (.ref a)) (rv : RelV (.ref a) u) (ok : okShow d = true) (k : Q (.str d.shown) H) : wpAny (model X.prog X.w) X.A (call (.builtin "repr") [u]) (EP X pins σ Q) X.xe s := by
  unfold okShow at ok
  simp only [Bool.and_eq_true, decide_eq_true_eq, Bool.not_eq_true'] at ok
  obtain ⟨⟨⟨⟨o1, o2⟩, o3⟩, o4⟩, o5⟩ := ok
  obtain ⟨as, rd⟩ := r.reads I hK o1 rv
  cases rv
  exact repr_of_reads' rd o2 (fun z => by rw [o3] at z; cases z) hg (by omega) (fun b o e => e) (fun h' u tk kp => ⟨.str d.shown, H, I.kept kp, ⟨_, rfl⟩, k⟩) o5
theorem call_reprD (hK : G.K = X.K) (hg : X.A.guards = some []) (hu : X.A.units + 66 < cLine) : CallR X (.builtin "repr") (rV G false reprD) := by
  intro pins s σ H xs us Q I rx h
  obtain ⟨L, A, ds, w, rs, hw, k⟩ := rv_ex h
  unfold reprD at hw
  split at hw
  · split at hw
    · rename_i ok
      cases hw
      obtain ⟨x, rfl, r⟩ := reps1 rs
      obtain ⟨u, rfl, ru⟩ := vals1 rx
      cases r with
      | lst h1 n1 q1 => exact run_repr hK hg hu I (.lst h1 n1 q1) ru ok (k_str k)
    · cases hw
  · split at hw
    · rename_i ok
      cases hw
      obtain ⟨x, rfl, r⟩ := reps1 rs
      obtain ⟨u, rfl, ru⟩ := vals1 rx
      cases r with
      | tup h1 n1 q1 => exact run_repr hK hg hu I (.tup h1 n1 q1) ru ok (k_str k)
    · cases hw
  · cases hw
end
end Ev
end

section
set_option maxRecDepth 100000
set_option maxHeartbeats 4000000
namespace Ev
open PySem PySem.Spec PyProof.Rows L2
/-! ### defs that are called where no repr is under way -/
/-- a def's promise, given where no repr is under way -/
structure FnG (P : Program) (w : World) (K : PySem.W.Frag) (mg : Str → Option Value) (base : Heap) (CX : CXT) (k : Nat) (f : Addr) (fd : FuncData) (ps : List Str) (sp : Sp) : Prop where
  len : ∀ vs H Q E, sp vs H Q E → vs.length = ps.length
  run : ∀ (A : Around) (outer : List Env) (s : Shared) (H : Hp) (args : Args) (us : List Value) (vs : List V) (Q : VK) (E : XK), Room k A → A.guards = some [] → Env0 P w K mg base A outer s H → BindsTo s fd args (ps.zip us) → Vals vs us → sp vs H Q E →
    codeAny (model P w) A (.call (.ref f) args) (CR CX outer P w H s Q E) s
variable {P : Program} {w : World} {K : PySem.W.Frag} {mg : Str → Option Value} {base : Heap} {CX : CXT}
/-- the promise of a def whose body is walked there -/
theorem fnG_body {k : Nat} {x qual : Str} {params : Arguments} {body : List Stmt} {scope : Scope} {f : Addr} {fd : FuncData} {N ps : List Str} {sp : Sp} (F : FunD K x qual params body scope [] [] f fd) (S : FnScope N ps scope)
    (len : ∀ vs H Q E, sp vs H Q E → vs.length = ps.length)
    (hbody : ∀ (cdv : Value), (∀ c, CodeAt K f c → cdv = .ref c) → ∀ (A : Around) (outer : List Env) (s : Shared) (H : Hp) (vs : List V) (Q : VK) (E : XK), Room k (A.deeper (envOfC qual scope s.heap.objs.size f cdv)) → (A.deeper (envOfC qual scope s.heap.objs.size f cdv)).guards = some [] → sp vs H Q E →
      ∃ t, PSs (cxOf CX P w K mg base N qual scope f cdv A outer s H E) body t ∧ t { nx := fun _ H' => Q .non H', rt := Q } (start N vs) H) : FnG P w K mg base CX (k + 1) f fd ps sp := by
  obtain ⟨oc, od, dV, kV, doc, pm, an, cdv, ct, osl, rfl, lk, hcd, _, _⟩ := F.ex
  constructor
  · exact len
  · intro A outer s H args us vs Q E hr hg e0 hb r hsp
    have inK : K.In s.heap := e0.mod.kin.keeps fun b o e => (e0.bs b o e).1
    have free : s.heap.NoLimit := e0.mod.nolimit.keeps fun b o e => (e0.bs b o e).1
    refine codeAny_call_function hr.depth (inK _ _ lk) rfl S.co S.gen rfl (PySem.W.codeRec_of inK hcd) (hb _ _ _ _ ?_)
    refine wpAny_newFunctionEnv_cells S.kind (fun ⟨n, v⟩ hy => ?_) fun env he s1 x => ?_
    · exact (S.par n (List.of_mem_zip hy).1).imp id fun q => ⟨q, PySem.W.cellsFrom_some _ _ _ (.inl q)⟩
    · subst he
      refine ⟨free.keeps x.toInCall.keep, codeAny_func ?_⟩
      obtain ⟨t, ht, hq⟩ := hbody cdv (fun c hc => hc _ _ _ _ lk) A outer s H vs Q E (hr.deeper _) hg hsp
      refine wpAny_mono (ht.run [] s1 (start N vs) H _ (inv_start S hr.hd e0 (len _ _ _ _ hsp) r x) hq) (fun fl s' hs => ?_) fun e s' hs => hs
      cases fl with
      | brk =>
        obtain ⟨_, _, _, q⟩ := hs
        exact q.elim
      | cont =>
        obtain ⟨_, _, _, q⟩ := hs
        exact q.elim
      | next =>
        obtain ⟨σ', H', J, q⟩ := hs
        exact ⟨.non, H', J.os, J.bare, J.base, J.hok, rfl, q⟩
      | ret u =>
        obtain ⟨v, σ', H', J, rv, q⟩ := hs
        exact ⟨v, H', J.os, J.bare, J.base, J.hok, rv, q⟩
section
variable {X : Cx} {k : Nat} {f : Addr} {fd : FuncData} {ps : List Str} {sp : Sp} {E : XK} {x : Str} {p pos : Pos} {e : Expr} {es : List Expr} {t : TA}
theorem pe_callG (F : FnG X.prog X.w X.K X.mg X.base CX k f fd ps sp) (hr : Room k X.A) (hgu : X.A.guards = some []) (hg : Gl X x) (hm : X.mg x = some (.ref f)) (hk : PySem.W.keepIn X.K (.ref f) = true) (hb : Binds X.K fd ps []) (hx : Passes CX X E)
    (ha : PA X (e :: es) t) (hdb : (x == ("__debug__" : Str)) = false := by decide) (he : starEach (e :: es) X.env = (false, eval e X.env) :: starEach es X.env := by rfl) (hpl : (backTo pos (starEach es X.env)).any (·.1) = false := by rfl) :
    PE X (.Call (.Name x p) (e :: es) [] pos) (tCall sp [] E t) := by
  refine ⟨fun pins s σ H Q I h => wpAny_Call_Name_kw (ld_glob I hg hm (PySem.W.callWith_K (h₀ := X.base) I.ok.mod.kin hk (thn (ha.run pos pins s σ H _ I h) fun us s1 ⟨vs, H1, I1, r, q⟩ => ⟨I1.kIn, ?_⟩) he hpl) hdb)⟩
  have q : sp vs H1 Q E := by
    have q : sp (vs ++ []) H1 Q E := q
    rwa [List.append_nil] at q
  have hl : us.length = ps.length := r.length.symm.trans (F.len _ _ _ _ q)
  have hb1 := hb s1 us I1.kIn (by rw [List.append_nil]; exact hl)
  rw [List.append_nil] at hb1
  refine wpAny_call (codeAny_mono (F.run X.A X.stack s1 H1 ⟨us, []⟩ us vs Q E hr hgu I1.env0 hb1 r q) fun out s' ho => ?_)
  cases out with
  | error ex => exact hx pins σ H1 s1 ex s' I1 ho
  | ok fl =>
    cases fl with
    | ret u => exact I1.after ho
    | next => exact ho.elim
    | brk => exact ho.elim
    | cont => exact ho.elim
theorem pe_callDG {F : Fx} {M : List Nat} {fr : Bool} {n : Nat} {fs : DEs} {m : DF} {G : Gd} {xc : Nat → Addr} {T : List (Addr × Str)} (Fn : FnG X.prog X.w X.K X.mg X.base (L2.CX X.prog X.w) k f fd ps (spD G xc T n fr m)) (hr : Room k X.A) (hgu : X.A.guards = some []) (hg : Gl X x) (hm : X.mg x = some (.ref f)) (hk : PySem.W.keepIn X.K (.ref f) = true) (hb : Binds X.K fd ps []) (hx : Passes (L2.CX X.prog X.w) X F.EX)
    (h1 : F.G = G) (h2 : F.xc = xc) (h3 : F.T = T) (hl : ∀ ds st, ds.length ≠ n → m ds st = .stuck)
    (ha : PA X (e :: es) (tDs F M fs)) (hdb : (x == ("__debug__" : Str)) = false := by decide) (he : starEach (e :: es) X.env = (false, eval e X.env) :: starEach es X.env := by rfl) (hpl : (backTo pos (starEach es X.env)).any (·.1) = false := by rfl) :
    PE X (.Call (.Name x p) (e :: es) [] pos) (tD F (List.range F.n) fr (eCall m fs)) :=
  (pe_callG Fn hr hgu hg hm hk hb hx ha hdb he hpl).imp fun σ H Q h => by
    have := call_read (M := M) h1 h2 h3 hl h
    show tDs F M fs σ H fun vs H1 => spD G xc T n fr m (vs ++ []) H1 Q F.EX
    simpa using this
end
section
variable {qual x : Str} {params : Arguments} {body : List Stmt} {scope : Scope} {f : Addr} {fd : FuncData}
theorem okDG {G : Gd} {xc : Nat → Addr} {T : List (Addr × Str)} {N ps : List Str} {k n : Nat} {fr : Bool} {bm : DS} (F : FunD K x qual params body scope [] [] f fd) (S : FnScope N ps scope) (hps : ps.length = n) (hle : n ≤ N.length)
    (hb : ∀ (cdv : Value) (A : Around) (outer : List Env) (s : Shared) (H : Hp) (E : XK) (L Z : List Addr), Room k (A.deeper (envOfC qual scope s.heap.objs.size f cdv)) → (A.deeper (envOfC qual scope s.heap.objs.size f cdv)).guards = some [] →
      PSs (cxOf (L2.CX P w) P w K mg base N qual scope f cdv A outer s H E) body (tS ⟨G, xc, H, L, T, E, Z, N.length⟩ bm)) :
    FnG P w K mg base (L2.CX P w) (k + 1) f fd ps (spD G xc T n fr (defD N.length n fr bm)) := by
  refine fnG_body F S (fun vs H Q E h => by rw [h.1, hps]) fun cdv _ A outer s H vs Q E hr hgu ⟨hn, L, AL, Z, ds, st, g, r, h⟩ => ?_
  refine ⟨_, hb cdv A outer s H E L Z hr hgu, L, AL, _, st, rel0 g r (by omega), ?_⟩
  have hl := r.length
  unfold defD at h
  rw [if_pos (by omega : ds.length = n)] at h
  rw [hn]
  generalize bm (ds.map (fun d => some (d, false)) ++ List.replicate (N.length - n) none) st = r0 at h
  cases r0 with
  | nx ρ' st' => exact fun σ' H' R' fm => h _ H' R'.gnd R'.ext .non fun z1 z2 => by cases z2
  | brk ρ' st' => exact h.elim
  | ct ρ' st' => exact h.elim
  | stuck => exact h.elim
  | exn x st' => exact fun ρ' σ' cls dd H' R' xr => h cls dd H' _ rfl rfl R'.gnd R'.ext xr
  | ret d f st' =>
    intro ρ' σ' v H' R' rp fre
    have h : CPost G xc T Z L AL H fr Q E (if (fr && !f && mutD d) = true then .stuck else .ok d st') := h
    by_cases c : (fr && !f && mutD d) = true
    · rw [if_pos c] at h; exact h.elim
    · rw [if_neg c] at h
      refine h v H' R'.gnd R'.ext rp fun z1 z2 => ?_
      have hf : f = true := by
        cases f with
        | true => rfl
        | false => exact absurd (by simp [z1, z2]) c
      exact fre hf z2
theorem okLawG {G : Gd} {xc : Nat → Addr} {T : List (Addr × Str)} {N ps : List Str} {k i : Nat} {g kk : DS} (hK : G.K = K) (F : FunD K x qual params body scope [] [] f fd) (S : FnScope N ps scope) (hps : ps.length = 1) (hle : 1 ≤ N.length)
    (hm : ∀ ns : List Int, ns.length ≤ 63 → (∀ z ∈ ns, Builtin.Int.intBits z ≤ 1048576) → ∃ fl st, sHand g i kk (some (frzl (ns.map .int), false) :: List.replicate (N.length - 1) none) [] = .ret (.bool true) fl st)
    (hb : ∀ (cdv : Value) (A : Around) (outer : List Env) (s : Shared) (H : Hp) (E : XK) (L Z : List Addr), Z = [] → Room k (A.deeper (envOfC qual scope s.heap.objs.size f cdv)) → (A.deeper (envOfC qual scope s.heap.objs.size f cdv)).guards = some [] →
      PSs (cxOf (L2.CX P w) P w K mg base N qual scope f cdv A outer s H E) body (fun D σ H' => ∃ L1 AL ρ st, Rel ⟨G, xc, H, L, T, E, Z, N.length⟩ L1 AL ρ st σ H' ∧ (∃ f st', sHand g i kk ρ st = .ret (.bool true) f st') ∧ ∀ H', D.rt (.bl true) H')) :
    FnG P w K mg base (L2.CX P w) (k + 1) f fd ps (spLaw K T) := by
  refine fnG_body F S (fun vs H Q E ⟨a, ns, e, _⟩ => by rw [e, hps]; rfl) fun cdv _ A outer s H vs Q E hr hgu ⟨a, ns, e, hq, tb, h1, h2, hQ⟩ => ?_
  subst e
  have gd : Gnd G T [] [] (fun _ => False) [] H := ⟨List.nodup_nil, rfl, fun i a ds e => by simp at e, fun b k => k.elim, fun b k => k.elim, tb, fun b k => by cases k⟩
  have r : Reps G [] H (fun b => b ∉ ([] : List Addr) ++ []) [frzl (ns.map .int)] [.ref a] := .cons (.frz ((SqF.of (by rw [hK]; exact hq)).imp fun b _ _ => by simp) (by rw [List.length_map, sizeLine_eq]; omega) (reps_ints ns)) .nil
  exact ⟨_, hb cdv A outer s H E [] [] rfl hr hgu, [], _, _, [], rel0 gd r (by simpa using hle), hm ns h1 h2, hQ⟩
theorem okDLG {G : Gd} {xc : Nat → Addr} {T : List (Addr × Str)} {N ps : List Str} {k n : Nat} {fr : Bool} {bm : DS} {c : Addr} (F : FunD K x qual params body scope [] [] f fd) (hcA : CodeAt K f c) (S : FnScope N ps scope) (hps : ps.length = n) (hle : n ≤ N.length)
    (hb : ∀ (A : Around) (outer : List Env) (s : Shared) (H : Hp) (E : XK) (L Z : List Addr), Room k (A.deeper (envOfC qual scope s.heap.objs.size f (.ref c))) → (A.deeper (envOfC qual scope s.heap.objs.size f (.ref c))).guards = some [] →
      PSs (cxOf (L2.CX P w) P w K mg base N qual scope f (.ref c) A outer s H E) body (tS ⟨G, xc, H, L, T, E, Z, N.length⟩ bm)) :
    FnG P w K mg base (L2.CX P w) (k + 1) f fd ps (spD G xc T n fr (defD N.length n fr bm)) := by
  refine fnG_body F S (fun vs H Q E h => by rw [h.1, hps]) fun cdv hq A outer s H vs Q E hr hgu hsp => ?_
  obtain rfl := hq c hcA
  obtain ⟨hn, L, AL, Z, ds, st, g, r, h⟩ := hsp
  refine ⟨_, hb A outer s H E L Z hr hgu, L, AL, _, st, rel0 g r (by omega), ?_⟩
  have hl := r.length
  unfold defD at h
  rw [if_pos (by omega : ds.length = n)] at h
  rw [hn]
  generalize bm (ds.map (fun d => some (d, false)) ++ List.replicate (N.length - n) none) st = r0 at h
  cases r0 with
  | nx ρ' st' => exact fun σ' H' R' fm => h _ H' R'.gnd R'.ext .non fun z1 z2 => by cases z2
  | brk ρ' st' => exact h.elim
  | ct ρ' st' => exact h.elim
  | stuck => exact h.elim
  | exn x st' => exact fun ρ' σ' cls dd H' R' xr => h cls dd H' _ rfl rfl R'.gnd R'.ext xr
  | ret d f st' =>
    intro ρ' σ' v H' R' rp fre
    have h : CPost G xc T Z L AL H fr Q E (if (fr && !f && mutD d) = true then .stuck else .ok d st') := h
    by_cases cc : (fr && !f && mutD d) = true
    · rw [if_pos cc] at h; exact h.elim
    · rw [if_neg cc] at h
      refine h v H' R'.gnd R'.ext rp fun z1 z2 => ?_
      have hf : f = true := by
        cases f with
        | true => rfl
        | false => exact absurd (by simp [z1, z2]) cc
      exact fre hf z2
theorem okLawLG {G : Gd} {xc : Nat → Addr} {T : List (Addr × Str)} {N ps : List Str} {k i : Nat} {g kk : DS} {c : Addr} (hK : G.K = K) (F : FunD K x qual params body scope [] [] f fd) (hcA : CodeAt K f c) (S : FnScope N ps scope) (hps : ps.length = 1) (hle : 1 ≤ N.length)
    (hm : ∀ ns : List Int, ns.length ≤ 63 → (∀ z ∈ ns, Builtin.Int.intBits z ≤ 1048576) → ∃ fl st, sHand g i kk (some (frzl (ns.map .int), false) :: List.replicate (N.length - 1) none) [] = .ret (.bool true) fl st)
    (hb : ∀ (A : Around) (outer : List Env) (s : Shared) (H : Hp) (E : XK) (L Z : List Addr), Z = [] → Room k (A.deeper (envOfC qual scope s.heap.objs.size f (.ref c))) → (A.deeper (envOfC qual scope s.heap.objs.size f (.ref c))).guards = some [] →
      PSs (cxOf (L2.CX P w) P w K mg base N qual scope f (.ref c) A outer s H E) body (fun D σ H' => ∃ L1 AL ρ st, Rel ⟨G, xc, H, L, T, E, Z, N.length⟩ L1 AL ρ st σ H' ∧ (∃ f st', sHand g i kk ρ st = .ret (.bool true) f st') ∧ ∀ H', D.rt (.bl true) H')) :
    FnG P w K mg base (L2.CX P w) (k + 1) f fd ps (spLaw K T) := by
  refine fnG_body F S (fun vs H Q E ⟨a, ns, e, _⟩ => by rw [e, hps]; rfl) fun cdv hq A outer s H vs Q E hr hgu hsp => ?_
  obtain rfl := hq c hcA
  obtain ⟨a, ns, e, hq2, tb, h1, h2, hQ⟩ := hsp
  subst e
  have gd : Gnd G T [] [] (fun _ => False) [] H := ⟨List.nodup_nil, rfl, fun i a ds e => by simp at e, fun b k => k.elim, fun b k => k.elim, tb, fun b k => by cases k⟩
  have r : Reps G [] H (fun b => b ∉ ([] : List Addr) ++ []) [frzl (ns.map .int)] [.ref a] := .cons (.frz ((SqF.of (by rw [hK]; exact hq2)).imp fun b _ _ => by simp) (by rw [List.length_map, sizeLine_eq]; omega) (reps_ints ns)) .nil
  exact ⟨_, hb A outer s H E [] [] rfl hr hgu, [], _, _, [], rel0 gd r (by simpa using hle), hm ns h1 h2, hQ⟩
end
end Ev
end

section
set_option maxRecDepth 100000
set_option maxHeartbeats 2000000
namespace Ev
open PySem PySem.Spec PyProof.Rows L2 LamX
/-! ### the law's call, where the law's promise is given for callers with no repr under way -/
/-- what is tracked at the law's call: the tables, and the script where it is no object of the head -/
def topH (K : PySem.W.Frag) (ts : List Addr) (a : Addr) (ob : Obj) (ns : List Int) : Hp := fun b => if b ∈ ts then some (.tbl #[]) else if b = a ∧ K.lookup a = none then some (.frz ob (.lst (ns.map V.int))) else none
section
variable {K : PySem.W.Frag} {ts : List Addr} {a : Addr} {ob : Obj} {ns : List Int}
theorem topH_tab {b : Addr} (h : b ∈ ts) : topH K ts a ob ns b = some (.tbl #[]) := if_pos h
theorem topH_some {b : Addr} {u : HO} (h : topH K ts a ob ns b = some u) : (b ∈ ts ∧ u = .tbl #[]) ∨ (b = a ∧ K.lookup a = none ∧ u = .frz ob (.lst (ns.map V.int))) := by
  unfold topH at h
  split at h
  · rename_i q
    cases h
    exact .inl ⟨q, rfl⟩
  · split at h
    · rename_i q
      cases h
      exact .inr ⟨q.1, q.2, rfl⟩
    · cases h
end
section
variable {P : Program} {w : World} {K : PySem.W.Frag} {mg mb : Str → Option Value} {CX : CXT} {k : Nat} {fa a : Addr} {cs : List (Addr × Addr)} {fd : FuncData} {x : Str} {sp : Sp} {s : Shared} {vs : List Value} {ns : List Int}
theorem top_law (inK : K.In s.heap) (hns : s.heap.Ns mainGlobals mg) (hb : s.heap.Ns builtinsNs mb) (hbb : ∀ x : Str, x ≠ "__name__" → mb x = bootBuiltins x) (hlim : s.heap.NoLimit) (hg : s.gens = #[])
    (hT : ∀ p ∈ cs, s.heap.get? p.2 = some { cls := .none, data := .fields #[] }) (nT : ∀ p ∈ cs, K.lookup p.2 = none) (hC : ∀ p ∈ cs, PySem.W.CodeHd s.heap p.1 p.2)
    (hbm : ∃ (bm : Addr) (ob : Obj), mg "__builtins__" = some (.ref bm) ∧ bm ≠ builtinsNs ∧ s.heap.get? bm = some ob ∧ ob.cls = .type "module" ∧ ob.dict = some builtinsNs ∧ ob.data = .plain)
    (ha : s.heap.get? a = some { cls := .type "list", data := .seq vs.toArray }) (hi : IntsAre vs ns) (hl : ns.length ≤ sizeLine) (hr : Room k callerA)
    (F : ∀ base : Heap, K.In base → base.Ns mainGlobals mg → (∀ p ∈ cs, TabB base mg p.1 p.2) → FnG P w K mg base CX k fa fd [x] sp) (hbind : ∀ (s : Shared) (u : Value), BindsTo s fd ⟨[u], []⟩ [(x, u)])
    (hsp : ∀ H : Hp, (∀ p ∈ cs, H p.2 = some (.tbl #[])) → SqL K H a (ns.map V.int) → sp [.ref a] H (fun v _ => v = .bl true) fun _ _ _ => False)
    (hCX : ∀ H e s', CX [] H s (fun _ _ _ => False) e s' → False) :
    codeAny (model P w) callerA (.call (.ref fa) ⟨[.ref a], []⟩) (fun r s' => r = .ok (.ret (.bool true)) ∧ OldK s.heap s'.heap ∧ s'.os = s.os ∧ AllBare s'.gens) s := by
  have tab : ∀ b : Addr, b ∈ cs.map (·.2) → s.heap.get? b = some { cls := .none, data := .fields #[] } ∧ K.lookup b = none := fun b hb => by
    obtain ⟨p, hp, rfl⟩ := List.mem_map.mp hb
    exact ⟨hT p hp, nT p hp⟩
  have inT : ∀ p ∈ cs, p.2 ∈ cs.map (·.2) := fun p hp => List.mem_map_of_mem hp
  obtain ⟨H, eH⟩ : ∃ H, H = topH K (cs.map (·.2)) a { cls := .type "list", data := .seq vs.toArray } ns := ⟨_, rfl⟩
  -- a thing of the heap that is no sequence and no empty table is not tracked
  have untr : ∀ {b : Addr} {o : Obj}, s.heap.get? b = some o → (∀ u n, o.data ≠ .seq u n) → o.data ≠ .fields #[] → H b = none := fun {b o} e h1 h2 => by
    cases q : H b with
    | none => rfl
    | some u =>
      rw [eH] at q
      rcases topH_some q with ⟨m, _⟩ | ⟨m, _⟩
      · rw [(tab b m).1] at e
        cases e
        exact absurd rfl h2
      · rw [m, ha] at e
        cases e
        exact absurd rfl (h1 _ _)
  have hid : ∀ {b : Addr} {o : Obj}, s.heap.get? b = some o → (∀ u n, o.data ≠ .seq u n) → o.data ≠ .fields #[] → (hidT s.heap H).get? b = some o := fun e h1 h2 => hidT_get e (untr e h1 h2)
  have spaces : ∀ {b : Addr} {m : Str → Option Value}, s.heap.Ns b m → (hidT s.heap H).Ns b m := fun {b m} ⟨o, es, ep, e, d, r⟩ => ⟨o, es, ep, hid e (fun u n z => by rw [d] at z; cases z) (fun z => by rw [d] at z; cases z), d, r⟩
  have inB : K.In (hidT s.heap H) := fun b o e => hidT_get (inK b o e) (by
    cases q : H b with
    | none => rfl
    | some u =>
      rw [eH] at q
      rcases topH_some q with ⟨m, _⟩ | ⟨m, n, _⟩
      · rw [(tab b m).2] at e; cases e
      · rw [m, n] at e; cases e)
  have modB : L2.Mod K mg (hidT s.heap H) := ⟨inB, spaces hns, ⟨mb, spaces hb, hbb⟩, let ⟨mc, h1, h2⟩ := hlim; ⟨mc, spaces h1, h2⟩⟩
  have tabB : ∀ p ∈ cs, TabB (hidT s.heap H) mg p.1 p.2 := fun p hp => by
    refine ⟨?_, ?_, fun z => ?_⟩
    · obtain ⟨o, us, file, tf, flags, tg, inF, text, tt, e1, r1, r2, r3, r4, r5, r6, r7, r8, hne⟩ := hC p hp
      exact ⟨o, us, file, tf, flags, tg, inF, text, tt, hid e1 (fun u n z => by rw [r2] at z; cases z) (fun z => by rw [r2] at z; cases z; simp at r3), r1, r2, r3, r4, r5, r6, r7, r8, hne⟩
    · obtain ⟨bm, ob, b1, b2, b3, b4, b5, b6⟩ := hbm
      refine ⟨bm, ob, b1, b2, fun q => ?_, fun q => ?_, hid b3 (fun u n z => by rw [b6] at z; cases z) (fun z => by rw [b6] at z; cases z), b4, b5, b6⟩
      · obtain ⟨o, es, ep, e, hd, _⟩ := hns
        rw [q, e] at b3
        cases b3
        rw [hd] at b6
        cases b6
      · rw [q, hT p hp] at b3
        cases b3
        cases b6
    · obtain ⟨o, es, ep, e, hd, _⟩ := hns
      rw [z, hT p hp] at e
      cases e
      cases hd
  have hH : ∀ p ∈ cs, H p.2 = some (.tbl #[]) := fun p hp => by rw [eH]; exact topH_tab (inT p hp)
  have aT : a ∉ cs.map (·.2) := fun m => by
    have := (tab a m).1
    rw [ha] at this
    cases this
  have hS : SqL K H a (ns.map V.int) := by
    cases q : K.lookup a with
    | none => exact .inl (.inr ⟨_, by rw [eH]; exact (if_neg aT).trans (if_pos ⟨rfl, q⟩)⟩)
    | some o =>
      have e := inK a o q
      rw [ha] at e
      cases e
      exact .inr ⟨_, vs.toArray, _, q, rfl, rfl, rfl, by rw [List.size_toArray, hi.length]; exact hl, by simpa using vals_ints hi⟩
  have hok : HOk P w H s.heap := fun b u e => by
    rw [eH] at e
    rcases topH_some e with ⟨m, rfl⟩ | ⟨rfl, _, rfl⟩
    · exact (tab b m).1
    · exact ⟨ha, by rw [List.length_map]; exact hl, vs, _, vals_ints hi, ha⟩
  have e0 : Env0 P w K mg (hidT s.heap H) callerA [] s H := ⟨rfl, modB, fun b o e => of_hidT e, Nat.le_of_eq (hidT_size _ _), trivial, (fun b hb => absurd (show b ∈ ([] : List Addr) from hb) (by simp)), hok, .of_eq hg⟩
  refine codeAny_mono ((F _ inB (spaces hns) tabB).run callerA [] s H ⟨[.ref a], []⟩ [.ref a] [.ref a] _ _ hr rfl e0 (hbind s (.ref a)) (.cons rfl .nil) (hsp H hH hS)) fun r s' h => ?_
  cases r with
  | error e => exact (hCX H e s' h).elim
  | ok fl =>
    cases fl with
    | next => exact h.elim
    | brk => exact h.elim
    | cont => exact h.elim
    | ret u =>
      obtain ⟨v, H', os, bare, un, hok', r', q⟩ := h
      have q : v = .bl true := q
      subst q
      obtain rfl : u = Value.bool true := r'
      have old : ∀ b o, b ∉ cs.map (·.2) → s.heap.get? b = some o → s'.heap.get? b = some o := fun b o nb e => by
        cases q : H b with
        | none => exact un.keep b o e q (fun z => absurd (show b ∈ ([] : List Addr) from z) (by simp)) (by simp)
        | some u =>
          have q2 := q
          rw [eH] at q2
          rcases topH_some q2 with ⟨m, _⟩ | ⟨m, _, rfl⟩
          · exact absurd m nb
          · obtain ⟨f1, _⟩ := hok b _ q
            obtain ⟨f2, _⟩ := hok' b _ (un.frzs b _ _ q)
            rw [e] at f1
            cases f1
            exact f2
      have grew : ∀ b, b ∈ cs.map (·.2) → ∃ p ∈ cs, p.2 = b ∧ ∃ more : Array Value, s'.heap.get? b = some { cls := .none, data := .fields more } := fun b m => by
        obtain ⟨p, hp, rfl⟩ := List.mem_map.mp m
        obtain ⟨more, z⟩ := un.tbls p.2 #[] (hH p hp)
        exact ⟨p, hp, rfl, _, hok' p.2 _ z⟩
      refine ⟨rfl, ⟨fun b o e => ?_, fun b o e => ?_⟩, os, bare⟩
      · by_cases m : b ∈ cs.map (·.2)
        · obtain ⟨p, hp, rfl, more, hm⟩ := grew b m
          rw [hT p hp] at e
          cases e
          exact .inr (.inl ⟨((hC p hp).tab (hT p hp)).isCodeTable, rfl, #[], more, rfl, by rw [Array.empty_append]; exact hm⟩)
        · exact .inl (old b o m e)
      · by_cases m : b ∈ cs.map (·.2)
        · obtain ⟨p, hp, rfl, more, hm⟩ := grew b m
          exact ⟨_, hm⟩
        · exact ⟨o, old b o m e⟩
end
/-- what must be known of the law at the head's heap -/
def LawAtG (l : PySem.W.OpenLaw) (w : World) (K : PySem.W.Frag) (CX : CXT) (k n : Nat) (x : Str) (mg : Str → Option Value) (fa : Addr) (h : Heap) : Prop :=
  ∃ (fd : FuncData) (cs : List (Addr × Addr)) (sp : Sp), (∀ p ∈ cs, h.get? p.2 = some { cls := .none, data := .fields #[] }) ∧ (∀ p ∈ cs, K.lookup p.2 = none) ∧ (∀ p ∈ cs, PySem.W.CodeHd h p.1 p.2) ∧ (∀ (s : Shared) (u : Value), BindsTo s fd ⟨[u], []⟩ [(x, u)]) ∧
    (∀ (H : Hp) (a : Addr) (ns : List Int), ns.length ≤ n → (∀ z ∈ ns, Builtin.Int.intBits z ≤ 1048576) → (∀ p ∈ cs, H p.2 = some (.tbl #[])) → SqL K H a (ns.map V.int) → sp [.ref a] H (fun v _ => v = .bl true) fun _ _ _ => False) ∧
    ∀ base : Heap, K.In base → base.Ns mainGlobals mg → (∀ p ∈ cs, TabB base mg p.1 p.2) → FnG l.prog w K mg base CX k fa fd [x] sp
theorem walk_G {l : PySem.W.OpenLaw} {n k : Nat} {q : Program} {loose : List Str} {XP : (Str → Option Value) → Heap → Prop} {YP : World → Heap → Prop} {d : DefRec} {CX : World → CXT} {x : Str}
    (hn : l.most = some n) (hn2 : n ≤ sizeLine) (hdf : d.params.defaults = []) (hr : Room k callerA)
    (F : ∀ (w : World) (mg : Str → Option Value) (fa : Addr) (h : Heap), YP w h → h.Ns mainGlobals mg → mg d.name = some (.ref fa) → ∃ K : PySem.W.Frag, K.In h ∧ LawAtG l w K (CX w) k n x mg fa h)
    (hCX : ∀ (w : World) (H : Hp) (s : Shared) (e : Value) (s' : Shared), CX w [] H s (fun _ _ _ => False) e s' → False) :
    PySem.W.WalkO q loose XP YP l.row.toRowW d [] (fun f vs => PySem.call f vs) := by
  refine Att.attach_callB hn hdf fun w s₀ s₁ mg mb fa o pm cd doc a vs ns G Y ho hd hcd hmg hobj hints hlen hbits hg => ?_
  obtain ⟨K, KX, fd, cs, sp, hT, nT, hC, hb, hsp, hF⟩ := F w mg fa _ Y G.T.g hmg
  exact top_law KX G.T.g G.T.b G.T.builtins G.T.nolimit hg hT nT hC G.T.bmain hobj hints (Nat.le_trans hlen hn2) hr hF hb (fun H hH hS => hsp H a ns hlen hbits hH hS) fun H e s' => hCX w H s₁ e s'
end Ev
end

section
set_option maxRecDepth 100000
set_option maxHeartbeats 2000000
namespace Ev
open PySem PySem.Spec PyProof.Rows L2
/-! ### x.append(y.pop(e)) -/
def popAt (ds : List PyData) (d : PyData) : Option (PyData × List PyData) := (intOf d).bind fun z => if 0 ≤ z ∧ z < (ds.length : Int) then (ds[z.toNat]?).map fun x => (x, ds.eraseIdx z.toNat) else none
def ownL (i : Nat) (ρ : EnvD) : Option (List PyData) := match ρ[i]? with
  | some (some (.list ds, true)) => some ds
  | _ => none
def sAppPop (i j : Nat) (f : DE) : DS := fun ρ st => if (ownL i ρ).isSome = true ∧ (ownL j ρ).isSome = true ∧ i ≠ j then eS (f ρ st) fun d st => match ownL j ρ with
  | some ds => match popAt ds d, ownL i ρ with
    | some (x, ds'), some es => if es.length < 1000000 ∧ ds.length < 1000000 then .nx ((ρ.set j (some (.list ds', true))).set i (some (.list (es ++ [x]), true))) st else .stuck
    | _, _ => .stuck
  | none => .stuck else .stuck
theorem ownL_eq {i : Nat} {ρ : EnvD} {ds : List PyData} (h : ownL i ρ = some ds) : ρ[i]? = some (some (.list ds, true)) := by
  unfold ownL at h
  split at h
  · rename_i q
    cases h
    exact q
  · cases h
theorem ownL_rd {i : Nat} {ρ : EnvD} {ds : List PyData} {st : Store} (h : ownL i ρ = some ds) : rdL i ρ st = some (ds, none) := by
  unfold rdL
  rw [ownL_eq h]
theorem seqIx {z : Int} {n : Nat} (h0 : 0 ≤ z) (h1 : z < n) : seqIndex? z n = some z.toNat := by
  unfold seqIndex?
  have h2 : ¬ z < 0 := by omega
  simp only [if_neg h2]
  rw [if_pos (by simp [h0, h1])]
theorem Reps.erase {G : Gd} {L : List Addr} {H : Hp} {A : Addr → Prop} : ∀ {ds : List PyData} {vs : List V} (k : Nat), Reps G L H A ds vs → Reps G L H A (ds.eraseIdx k) (vs.eraseIdx k)
  | _, _, _, .nil => .nil
  | _, _, 0, .cons _ r => r
  | _, _, k + 1, .cons a r => .cons a (r.erase k)
theorem erase_len {γ : Type} (l : List γ) (k : Nat) : (l.eraseIdx k).length ≤ l.length := by
  rw [List.length_eraseIdx]
  split <;> omega
section
variable {X : Cx} {F : Fx} {M : List Nat} {fr : Bool} {e : Expr} {f : DE} {pos p p2 ap ap2 cp cp2 : Pos}
theorem ps_appPopD {i j : Nat} {x y : Str} (hN : X.N[i]? = some x) (hv : Vis X.env.scope x) (hN2 : X.N[j]? = some y) (hv2 : Vis X.env.scope y) (he : PE X e (tD F M fr f)) (hd : (x == ("__debug__" : Str)) = false := by decide) (hcd : (x == ("__classdict__" : Str)) = false := by decide)
    (hd2 : (y == ("__debug__" : Str)) = false := by decide) (hcd2 : (y == ("__classdict__" : Str)) = false := by decide)
    (hs : swapsWith (.Call (.Attribute (.Name x p) "append" ap) [.Call (.Attribute (.Name y p2) "pop" ap2) [e] [] cp2] [] cp) none pos.line X.env = pure false := by rfl) (hbase : attributeBase (.Name x p) "append" X.env (eval (.Name x p) X.env) = eval (.Name x p) X.env := by rfl)
    (hbase2 : attributeBase (.Name y p2) "pop" X.env (eval (.Name y p2) X.env) = eval (.Name y p2) X.env := by rfl)
    (hfew2 : ((backTo cp2 (starEach [e] X.env)).all (fun x => !x.1) && (backToKw cp2 (keywordEach [] X.env)).all (fun x => x.1.isSome) && decide ([e].length + ([] : List Keyword).length + (if ([] : List Keyword).isEmpty then 0 else 1) < 30)) = true := by rfl)
    (hfew : ((backTo cp (starEach [.Call (.Attribute (.Name y p2) "pop" ap2) [e] [] cp2] X.env)).all (fun x => !x.1) && (backToKw cp (keywordEach [] X.env)).all (fun x => x.1.isSome) && decide ([Expr.Call (.Attribute (.Name y p2) "pop" ap2) [e] [] cp2].length + ([] : List Keyword).length + (if ([] : List Keyword).isEmpty then 0 else 1) < 30)) = true := by rfl)
    (hline : (ap.endLine == cp.line) = true := by rfl) (hline2 : (ap2.endLine == cp2.line) = true := by rfl) (hs2 : starEach [e] X.env = (false, eval e X.env) :: starEach [] X.env := by rfl) (hplain2 : (backTo cp2 (starEach [] X.env)).any (·.1) = false := by rfl)
    (hs1 : starEach [.Call (.Attribute (.Name y p2) "pop" ap2) [e] [] cp2] X.env = (false, eval (.Call (.Attribute (.Name y p2) "pop" ap2) [e] [] cp2) X.env) :: starEach [] X.env := by rfl) (hplain : (backTo cp (starEach [] X.env)).any (·.1) = false := by rfl) :
    PS X (.Expr (.Call (.Attribute (.Name x p) "append" ap) [.Call (.Attribute (.Name y p2) "pop" ap2) [e] [] cp2] [] cp) pos) (tS F (sAppPop i j f)) :=
  (ps_expr (pe_bm PySem.F.plainAttrs_list PySem.F.slot_list_append PySem.F.type_list_append mt_append (pe_var hN hv hd hcd) (pa_cons (pe_bm PySem.F.plainAttrs_list PySem.F.slot_list_pop PySem.F.type_list_pop mt_popAt (pe_var hN2 hv2 hd2 hcd2) (pa_cons he pa_nil hs2) hbase2 hfew2 hline2 hs2 hplain2) pa_nil hs1) hbase hfew hline hs1 hplain) hs).imp fun D σ H ⟨L, AL, ρ, st, R, h⟩ => by
    unfold sAppPop at h
    split at h
    · rename_i hc
      obtain ⟨c1, c2, hij⟩ := hc
      obtain ⟨es, q1⟩ := Option.isSome_iff_exists.mp c1
      obtain ⟨ds, q2⟩ := Option.isSome_iff_exists.mp c2
      obtain ⟨a, vs, h1, h2, _⟩ := rdL_ref (st1 := st) R (ownL_rd q1)
      obtain ⟨b, ws, g1, g2, _⟩ := rdL_ref (st1 := st) R (ownL_rd q2)
      rw [q2, q1] at h
      refine ⟨.ref a, h1, tyL h2, .ref b, g1, tyL g2, eS_read (M := M) (fr := fr) R h fun d st1 v H1 R1 E1 r fre h => ?_⟩
      cases qp : popAt ds d with
      | none => simp only [qp] at h; exact h.elim
      | some z =>
        obtain ⟨x, ds'⟩ := z
        simp only [qp] at h
        by_cases hl : es.length < 1000000 ∧ ds.length < 1000000
        · rw [if_pos hl] at h
          unfold popAt at qp
          cases qi : intOf d with
          | none => rw [qi] at qp; cases qp
          | some z =>
            rw [qi] at qp
            have qp : (if 0 ≤ z ∧ z < (ds.length : Int) then (ds[z.toNat]?).map fun x => (x, ds.eraseIdx z.toNat) else none) = some (x, ds') := qp
            by_cases hz : 0 ≤ z ∧ z < (ds.length : Int)
            · rw [if_pos hz] at qp
              cases qx : ds[z.toNat]? with
              | none => rw [qx] at qp; cases qp
              | some x' =>
                rw [qx] at qp
                cases qp
                obtain rfl : d = .int z := by
                  cases d <;> simp [intOf] at qi
                  rw [qi]
                cases r
                obtain ⟨b', ws', A0, k1, k2, k3, k4, k5, k6, k7⟩ := rdL_at R1 (ownL_rd q2)
                rw [g1] at k1
                cases k1
                have lw : ws'.length = ds.length := k4.length.symm
                obtain ⟨v, hv, rv⟩ := k4.get' qx
                rw [k5 rfl] at rv
                obtain ⟨ρ2, st2, e1, R2, fm⟩ := k7 (ds.eraseIdx z.toNat) (ws'.eraseIdx z.toNat) (k4.erase _) (Nat.le_trans (erase_len _ _) k3)
                have oj := ownL_eq q2
                have oi := ownL_eq q1
                unfold putL at e1
                cases e1
                have oi2 : ownL i (ρ.set j (some (.list (ds.eraseIdx z.toNat), true))) = some es := by
                  unfold ownL
                  rw [List.getElem?_set_ne (Ne.symm hij), oi]
                obtain ⟨a', vs', A1, m1, m2, m3, m4, m5, m6, m7⟩ := rdL_at R2 (ownL_rd (st := st1) oi2)
                rw [h1] at m1
                cases m1
                have rx : Rep F.G L (upd H1 b (.lst (ws'.eraseIdx z.toNat))) A1 x v := by
                  rw [m5 rfl]
                  exact (rv.keep (kp_own oj g1 k2 rfl)).imp fun c k _ => ⟨k.1, fun l hl => k.2 l (own_same oj hl)⟩
                have lv : vs'.length = es.length := m4.length.symm
                obtain ⟨ρ3, st3, e3, R3, fm3⟩ := m7 (es ++ [x]) (vs' ++ [v]) (m4.append (.cons rx .nil)) (by rw [List.length_append, sizeLine_eq]; simp; omega)
                unfold putL at e3
                cases e3
                refine ⟨b, ws', z, z.toNat, v, rfl, rfl, k2, by omega, by omega, seqIx hz.1 (by rw [lw]; exact hz.2), hv, ?_⟩
                exact ⟨a, vs', v, rfl, rfl, m2, by rw [sizeLine_eq]; omega, h σ _ R3 (((E1.frm R).trans fm).trans fm3)⟩
            · rw [if_neg hz] at qp
              cases qp
        · rw [if_neg hl] at h
          exact h.elim
    · exact h.elim
end
end Ev
end

section
set_option maxRecDepth 100000
set_option maxHeartbeats 2000000
namespace Ev
open PySem PySem.Spec PyProof.Rows L2
/-! ### list(range(a, b)), tuple(range(a, b)) -/
def eRg2 (g : List PyData → Option PyData) (fa fb : DE) : DE := fun ρ st => (fa ρ st).bind fun d st => match intOf d with
  | some _ => (fb ρ st).bind fun e st => .of (g [d, e]) st
  | none => .stuck
section
variable {X : Cx} {F : Fx} {M1 M2 : List Nat} {fr1 fr2 : Bool} {a b : Expr} {fa fb : DE} {p p0 p2 pos : Pos}
theorem pe_listR2D (hc : X.calm = true) (hg0 : Gl X "list") (hm0 : X.mg "list" = none) (hg : Gl X "range") (hm : X.mg "range" = none) (ha : PE X a (tD F M1 fr1 fa)) (hb : PE X b (tD F M2 fr2 fb))
    (na : starEach [a, b] X.env = (false, eval a X.env) :: starEach [b] X.env := by rfl) (na2 : starEach [b] X.env = (false, eval b X.env) :: starEach [] X.env := by rfl) (hp : (backTo pos (starEach [b] X.env)).any (·.1) = false := by rfl)
    (nb : starEach [.Call (.Name "range" p) [a, b] [] pos] X.env = (false, eval (.Call (.Name "range" p) [a, b] [] pos) X.env) :: starEach [] X.env := by rfl) :
    PE X (.Call (.Name "list" p0) [.Call (.Name "range" p) [a, b] [] pos] [] p2) (tD F [] true (eRg2 listR2 fa fb)) := (pe_listRg hc hg0 hm0 (prg_2 hg hm ha hb na na2 hp) nb).imp fun σ H Q ⟨L, AL, ρ, st, R, h⟩ => by
  have h : DPost F L AL ρ σ H [] true Q ((fa ρ st).bind fun d st => match intOf d with
    | some _ => (fb ρ st).bind fun e st => .of (listR2 [d, e]) st
    | none => .stuck) := h
  refine tD_bind (P := DPost F L AL ρ σ H [] true Q) R h (fun x st' h => h) (fun h => h) fun d st1 v H1 R1 E1 rd _ h => ?_
  cases rd with
  | int i =>
    refine tD_bind (P := DPost F L AL ρ σ H [] true Q) R1 h (fun x st' h cls dd H' R' E' xr => h cls dd H' R' (E1.trans E') xr) (fun h => h) fun e st2 u H2 R2 E2 re _ h => ?_
    have E2 := E1.trans E2
    cases re with
    | int j =>
      have h : DPost F L AL ρ σ H [] true Q (.of (if rgOk i j = true then some (.list (rngL i j)) else none) st2) := h
      by_cases c : rgOk i j = true
      · rw [if_pos c] at h
        refine ⟨i, j, rfl, rfl, rgOk_of c, fun q hq => h _ _ (R2.same (same_upd hq)) (E2.trans (.of_same (same_upd hq))) (.lst ⟨upd_same, R2.notZ hq, .inl (E2.free hq)⟩ (rg_len c) (reps_rg i _)) fun _ _ => ⟨q, _, rfl, E2.free hq, upd_same, .lst (rg_len c) (reps_rg i _)⟩⟩
      · rw [if_neg c] at h; exact h.elim
    | _ => exact h.elim
  | _ => exact h.elim
theorem pe_tupR2D (hc : X.calm = true) (hg0 : Gl X "tuple") (hm0 : X.mg "tuple" = none) (hg : Gl X "range") (hm : X.mg "range" = none) (ha : PE X a (tD F M1 fr1 fa)) (hb : PE X b (tD F M2 fr2 fb))
    (na : starEach [a, b] X.env = (false, eval a X.env) :: starEach [b] X.env := by rfl) (na2 : starEach [b] X.env = (false, eval b X.env) :: starEach [] X.env := by rfl) (hp : (backTo pos (starEach [b] X.env)).any (·.1) = false := by rfl)
    (nb : starEach [.Call (.Name "range" p) [a, b] [] pos] X.env = (false, eval (.Call (.Name "range" p) [a, b] [] pos) X.env) :: starEach [] X.env := by rfl) :
    PE X (.Call (.Name "tuple" p0) [.Call (.Name "range" p) [a, b] [] pos] [] p2) (tD F [] true (eRg2 tupR2 fa fb)) := (pe_tupRgN hc hg0 hm0 (prg_2 hg hm ha hb na na2 hp) nb).imp fun σ H Q ⟨L, AL, ρ, st, R, h⟩ => by
  have h : DPost F L AL ρ σ H [] true Q ((fa ρ st).bind fun d st => match intOf d with
    | some _ => (fb ρ st).bind fun e st => .of (tupR2 [d, e]) st
    | none => .stuck) := h
  refine tD_bind (P := DPost F L AL ρ σ H [] true Q) R h (fun x st' h => h) (fun h => h) fun d st1 v H1 R1 E1 rd _ h => ?_
  cases rd with
  | int i =>
    refine tD_bind (P := DPost F L AL ρ σ H [] true Q) R1 h (fun x st' h cls dd H' R' E' xr => h cls dd H' R' (E1.trans E') xr) (fun h => h) fun e st2 u H2 R2 E2 re _ h => ?_
    have E2 := E1.trans E2
    cases re with
    | int j =>
      have h : DPost F L AL ρ σ H [] true Q (.of (if rgOk i j = true then some (.tuple (rngL i j)) else none) st2) := h
      by_cases c : rgOk i j = true
      · rw [if_pos c] at h
        exact ⟨i, j, rfl, rfl, rgOk_of c, fun q o hq ho => h _ _ (R2.same (same_upd hq)) (E2.trans (.of_same (same_upd hq))) (.tup (.inl ⟨o, upd_same, ho⟩) (rg_len c) (reps_rg i _)) fun _ z => nomatch z⟩
      · rw [if_neg c] at h; exact h.elim
    | _ => exact h.elim
  | _ => exact h.elim
end
end Ev
end

section
set_option maxRecDepth 100000
set_option maxHeartbeats 2000000
namespace Ev
open PySem PySem.Spec PyProof.Rows L2
/-! ### repr of atoms, of tuples with empty dicts, too -/
mutual
/-- atoms, tuples, empty dicts: no list -/
def okQ : PyData → Bool
  | .none => true
  | .bool _ => true
  | .int _ => true
  | .str _ => true
  | .tuple xs => okQAll xs
  | .dict [] => true
  | _ => false
def okQAll : List PyData → Bool
  | [] => true
  | x :: xs => okQ x && okQAll xs
end
section
variable {X : Cx} {G : Gd} {pins : List (Addr × Obj)} {σ : L2.St} {H : Hp} {s : Shared} {L : List Addr} {A : Addr → Prop}
mutual
theorem Rep.readsQ (I : Inv X pins σ H s) (hK : G.K = X.K) : ∀ {d : PyData} {v : V} {u : Value}, Rep G L H A d v → okQ d = true → RelV v u → ∃ as, Reads s.heap u d as ∧ sysModules ∉ as
  | _, _, _, .non, _, rv => by cases rv; exact ⟨[], .none, by simp⟩
  | _, _, _, .bl b, _, rv => by cases rv; exact ⟨[], .bool b, by simp⟩
  | _, _, _, .int i, _, rv => by obtain ⟨t, rfl⟩ := rv; exact ⟨[], .int i t, by simp⟩
  | _, _, _, .str x, _, rv => by obtain ⟨t, rfl⟩ := rv; exact ⟨[], .str x t, by simp⟩
  | _, _, _, .tup h n r, z, rv => by
    cases rv
    obtain ⟨its, ri, hi, _⟩ := I.seqK (k := .t) (by rw [← hK]; exact h.sq)
    obtain ⟨as, ra, hs⟩ := Reps.readsQ I hK r (by simpa [okQ] using z) ri
    obtain ⟨o, ho, hc, n', hd⟩ := hi
    exact ⟨as, .tuple ho hc hd (by simpa using ra), hs⟩
  | _, _, _, .lst h n r, z, rv => by simp [okQ] at z
  | _, _, _, .lea h r, z, rv => by simp [okQ] at z
  | _, _, _, .fn n, z, rv => by simp [okQ] at z
  | _, _, _, .loc h, z, rv => by simp [okQ] at z
  | _, _, _, .frz h n r, z, rv => by simp [okQ] at z
  | _, _, _, .dit h z n o r, q, rv => by simp [okQ] at q
  | _, _, _, .dic h a n r, z, rv => by
    cases r with
    | nil =>
      cases rv
      obtain ⟨_, hs, vs, kv, o, es, ep, ho, hx, hd, _, hp, _⟩ := I.hok _ _ h
      cases kv
      have he : es.toList = [] := by
        cases q : es.toList with
        | nil => rfl
        | cons x l => rw [q] at hp; cases hp
      refine ⟨_, .dict (kvs := []) (as := []) (bs := []) ho hx.1 hd (by rw [he]; exact .nil) (by rw [he]; exact .nil), ?_⟩
      have := beq_eq_false_iff_ne.mp hs
      simpa using fun z => this z.symm
    | cons => simp [okQ] at z
theorem Reps.readsQ (I : Inv X pins σ H s) (hK : G.K = X.K) : ∀ {ds : List PyData} {vs : List V} {us : List Value}, Reps G L H A ds vs → okQAll ds = true → Vals vs us → ∃ as, ReadsAll s.heap us ds as ∧ sysModules ∉ as
  | _, _, _, .nil, _, rv => by cases rv; exact ⟨[], .nil, by simp⟩
  | _, _, _, .cons h r, z, rv => by
    simp only [okQAll, Bool.and_eq_true] at z
    cases rv with
    | cons r1 r2 =>
      obtain ⟨as, a1, a2⟩ := Rep.readsQ I hK h z.1 r1
      obtain ⟨bs, b1, b2⟩ := Reps.readsQ I hK r z.2 r2
      exact ⟨as ++ bs, .cons a1 b1, by simp [a2, b2]⟩
end
def okShQ (d : PyData) : Bool := okQ d && d.showable && decide (d.depth + 1 ≤ 60) && decide (d.shown.length ≤ sizeLine)
def reprQ : List PyData → Option PyData
  | [d] => if okShQ d = true ∨ okShow d = true then some (.str d.shown) else none
  | _ => none
theorem call_reprQ (hK : G.K = X.K) (hg : X.A.guards = some []) (hu : X.A.units + 66 < cLine) : CallR X (.builtin "repr") (rV G false reprQ) := by
  intro pins s σ H xs us Q I rx h
  obtain ⟨L, A, ds, w, rs, hw, k⟩ := rv_ex h
  unfold reprQ at hw
  split at hw
  · rename_i d
    split at hw
    · rename_i ok
      cases hw
      obtain ⟨x, rfl, r⟩ := reps1 rs
      obtain ⟨u, rfl, ru⟩ := vals1 rx
      have kq : Q (.str d.shown) H := k_str k
      have go : ∀ {a : Addr}, x = .ref a → wpAny (model X.prog X.w) X.A (call (.builtin "repr") [u]) (EP X pins σ Q) X.xe s := fun {a} e => by
        subst e
        rcases ok with ok | ok
        · unfold okShQ at ok
          simp only [Bool.and_eq_true, decide_eq_true_eq] at ok
          obtain ⟨⟨⟨o1, o2⟩, o3⟩, o4⟩ := ok
          obtain ⟨as, rd, hs⟩ := r.readsQ I hK o1 ru
          cases ru
          exact repr_of_reads' rd o2 (fun _ => hs) hg (by omega) (fun b o e => e) (fun h' u tk kp => ⟨.str d.shown, H, I.kept kp, ⟨_, rfl⟩, kq⟩) o4
        · exact run_repr hK hg hu I r ru ok kq
      cases r with
      | non =>
        cases ru
        exact PySem.P.repr_of_none ⟨.str _, H, I.tok _, ⟨_, rfl⟩, kq⟩
      | bl b =>
        cases ru
        exact PySem.P.repr_of_bool ⟨.str _, H, I.tok _, ⟨_, rfl⟩, kq⟩
      | int i =>
        obtain ⟨t, rfl⟩ := ru
        exact PySem.P.repr_of_int (by
          rcases ok with ok | ok
          · unfold okShQ at ok
            simp only [Bool.and_eq_true] at ok
            exact of_decide_eq_true ok.1.1.2
          · unfold okShow at ok
            simp only [Bool.and_eq_true] at ok
            exact of_decide_eq_true ok.1.1.1.2) ⟨.str _, H, I.tok _, ⟨_, rfl⟩, kq⟩
      | str y =>
        obtain ⟨t, rfl⟩ := ru
        exact PySem.P.repr_of_str ⟨.str _, H, I.tok _, ⟨_, rfl⟩, kq⟩ (by
          rcases ok with ok | ok
          · unfold okShQ at ok
            simp only [Bool.and_eq_true] at ok
            exact of_decide_eq_true ok.2
          · unfold okShow at ok
            simp only [Bool.and_eq_true] at ok
            exact of_decide_eq_true ok.2)
      | _ => exact go rfl
    · cases hw
  · cases hw
end
end Ev
end

section
set_option maxRecDepth 100000
set_option maxHeartbeats 2000000
namespace Ev
open PySem PySem.Spec PyProof.Rows L2
/-! ### x.extend(xs), xs a list or a tuple -/
open PySem PySem.AutoSeq1 in
set_option maxRecDepth 8000 in
theorem ext_tup (l : Addr) (items : Array Value) (n : Nat) (b : Addr) (items2 : Array Value) (n2 : Nat) (dc : Option Addr) (sl : Array (Option Value)) (hs0 : ¬(!items.isEmpty && Builtin.List.listTooLong (items.size + items2.size)) = true) (hs1 : items.size ≤ sizeLine) (hs2 : items.size + items2.size ≤ sizeLine + 1) :
    Meets (Builtin.«list.extend» ⟨[.ref l, .ref b], []⟩) (fun _ R s => s.heap.get? l = some { cls := .type "list", dict := none, data := .seq items n, slots := #[] } ∧ s.heap.get? b = some { cls := .type "tuple", dict := dc, data := .seq items2 n2, slots := sl } ∧ R (.ok (.ret Value.none)) { s with heap := s.heap.update l (Obj.mapSeq fun x => x ++ items2), toks := s.toks }) :=
  .of_wp fun prog w A R s h => by
    obtain ⟨hp, g, d, tk, os⟩ := s
    obtain ⟨hl, hb, h⟩ := h
    have f1 := AutoSeq1.idx_int
    have f2 := AutoSeq1.sub_tuple_tuple
    have f3 := AutoSeq1.sub_list_list
    have f4 := AutoSeq1.sub_tuple_list
    have f5 := AutoSeq1.sub_list_tuple
    have hz' : (items ++ items2).size ≤ sizeLine + 1 := by rw [Array.size_append]; exact hs2
    wp_walk using (wpAny_updateSeq hl rfl (hz := hs1) (_hz' := hz')), wpAny_loadPart' hl, wpAny_loadPart' hb
    exact ⟨_, rfl, h⟩
section
variable {X : Cx}
def rExtB (K : PySem.W.Frag) : V → List V → Hp → VK → Prop := fun x vs H Q => ∃ l b xs zs, x = .ref l ∧ vs = [.ref b] ∧ H l = some (.lst xs) ∧ (H b = some (.lst zs) ∨ SqT K H b zs) ∧ xs.length + zs.length ≤ sizeLine ∧ Q .non (upd H l (.lst (xs ++ zs)))
theorem mt_extendB : MtM X "list.extend" (rExtB X.K) := by
  intro pins s σ H x vs v us Q I rx rv h
  obtain ⟨l, b, xs, zs, rfl, rfl, hH, hB | hB, hz, q⟩ := h
  · exact mt_extend pins s σ H _ _ v us Q I rx rv ⟨l, b, xs, zs, rfl, rfl, hH, hB, hz, q⟩
  · cases rx
    obtain ⟨u, rfl, ru⟩ := rv.one
    cases ru
    obtain ⟨z, its, n, r, hl, e⟩ := I.lstM hH
    obtain ⟨its2, r2, hi, _⟩ := I.seqK (k := .t) hB
    obtain ⟨o, ho, hc, n2, hd⟩ := hi
    have l2 := r2.length
    have hsz : its.toArray.size + its2.toArray.size ≤ sizeLine := by rw [List.size_toArray, List.size_toArray]; omega
    have hlong : ¬ (!its.toArray.isEmpty && Builtin.List.listTooLong (its.toArray.size + its2.toArray.size)) = true := by
      rw [notLongL hsz, Bool.and_false]
      exact Bool.false_ne_true
    refine call_meets PySem.F.slot_list_extend ⟨_, e, rfl⟩ PySem.F.entry_list_extend (PySem.F.args_list_extend_2 _ _)
      (ext_tup l its.toArray n b its2.toArray n2 o.dict o.slots hlong (by rw [List.size_toArray]; omega) (by omega)) ⟨e, ?_, ?_⟩
    · rw [ho, ← hc, ← hd]
    · refine ⟨.non, _, I.lset (its' := its ++ its2) hH e (by simp) (r.append r2) ?_, rfl, q⟩
      rw [List.length_append]
      omega
end

def sExtB (i : Nat) (M : List Nat) (fr : Bool) (f : DE) : DS := fun ρ st => if (rdL i ρ st).isSome = true then eS (f ρ st) fun d st => match rdL i (dropFor M fr d ρ) st, d with
  | some (ds, w), .list es => if ds.length + es.length ≤ sizeLine ∧ (w = none ∨ noLs es = true) then putL i w (ds ++ es) (dropFor M fr d ρ) st else .stuck
  | some (ds, w), .tuple es => if ds.length + es.length ≤ sizeLine ∧ (w = none ∨ noLs es = true) then putL i w (ds ++ es) (dropFor M fr d ρ) st else .stuck
  | _, _ => .stuck else .stuck
section
variable {X : Cx} {F : Fx} {M : List Nat} {fr : Bool} {e : Expr} {f : DE} {pos p ap cp : Pos}
theorem ps_extBD {i : Nat} {x : Str} (hK : F.G.K = X.K) (hN : X.N[i]? = some x) (hv : Vis X.env.scope x) (he : PE X e (tD F M fr f)) (hd : (x == ("__debug__" : Str)) = false := by decide) (hcd : (x == ("__classdict__" : Str)) = false := by decide)
    (hs : swapsWith (.Call (.Attribute (.Name x p) "extend" ap) [e] [] cp) none pos.line X.env = pure false := by rfl) (hbase : attributeBase (.Name x p) "extend" X.env (eval (.Name x p) X.env) = eval (.Name x p) X.env := by rfl)
    (hfew : ((backTo cp (starEach [e] X.env)).all (fun x => !x.1) && (backToKw cp (keywordEach [] X.env)).all (fun x => x.1.isSome) && decide ([e].length + ([] : List Keyword).length + (if ([] : List Keyword).isEmpty then 0 else 1) < 30)) = true := by rfl)
    (hline : (ap.endLine == cp.line) = true := by rfl) (hs1 : starEach [e] X.env = (false, eval e X.env) :: starEach [] X.env := by rfl) (hplain : (backTo cp (starEach [] X.env)).any (·.1) = false := by rfl) :
    PS X (.Expr (.Call (.Attribute (.Name x p) "extend" ap) [e] [] cp) pos) (tS F (sExtB i M fr f)) :=
  (ps_expr (pe_bm PySem.F.plainAttrs_list PySem.F.slot_list_extend PySem.F.type_list_extend mt_extendB (pe_var hN hv hd hcd) (pa_cons he pa_nil hs1) hbase hfew hline hs1 hplain) hs).imp fun D σ H ⟨L, AL, ρ, st, R, h⟩ => by
    have h' : ∃ z, rdL i ρ st = some z ∧ SPost F L AL ρ σ H D (eS (f ρ st) fun d st => match rdL i (dropFor M fr d ρ) st, d with
        | some (ds, w), .list es => if ds.length + es.length ≤ sizeLine ∧ (w = none ∨ noLs es = true) then putL i w (ds ++ es) (dropFor M fr d ρ) st else .stuck
        | some (ds, w), .tuple es => if ds.length + es.length ≤ sizeLine ∧ (w = none ∨ noLs es = true) then putL i w (ds ++ es) (dropFor M fr d ρ) st else .stuck
        | _, _ => .stuck) := by
      unfold sExtB at h
      cases hr : rdL i ρ st with
      | none => rw [hr] at h; exact h.elim
      | some z =>
        rw [hr] at h
        exact ⟨z, rfl, h⟩
    obtain ⟨⟨ds0, w0⟩, hr, h⟩ := h'
    obtain ⟨a, vs, h1, h2, _⟩ := rdL_ref R hr
    refine ⟨.ref a, h1, tyL h2, ?_⟩
    refine eS_read R h fun d st1 v H1 R1 E1 r fre h => ?_
    cases q : rdL i (dropFor M fr d ρ) st1 with
    | none => rw [q] at h; exact h.elim
    | some z =>
      obtain ⟨ds, w⟩ := z
      rw [q] at h
      cases d with
      | list es =>
        have h : SPost F L AL ρ σ H D (if ds.length + es.length ≤ sizeLine ∧ (w = none ∨ noLs es = true) then putL i w (ds ++ es) (dropFor M fr (.list es) ρ) st1 else .stuck) := h
        by_cases hl : ds.length + es.length ≤ sizeLine ∧ (w = none ∨ noLs es = true)
        · rw [if_pos hl] at h
          have Rd := R1.dropFor M fr (.list es)
          obtain ⟨a', vs', A0, k1, k2, k3, k4, k5, k6, k7⟩ := rdL_at Rd q
          rw [h1] at k1
          cases k1
          have rv : ∃ b zs, v = .ref b ∧ H1 b = some (.lst zs) ∧ Reps F.G L H1 A0 es zs := by
            rcases hl.2 with z | z
            · have t := told_nu R r fre
              rw [← k5 z] at t
              cases t with
              | lst t1 t2 t3 => exact ⟨_, _, rfl, t1.1, t3⟩
            · cases r with
              | lst t1 t2 t3 => exact ⟨_, _, rfl, t1.1, t3.free z⟩
          obtain ⟨b, zs, rfl, hb, rz⟩ := rv
          have hlv : vs'.length + zs.length ≤ sizeLine := by rw [← k4.length, ← rz.length]; exact hl.1
          obtain ⟨ρ', st', e1, R', fm⟩ := k7 _ _ (k4.append rz) (by rw [List.length_append]; exact hlv)
          rw [e1] at h
          exact ⟨a, b, vs', zs, rfl, rfl, k2, .inl hb, hlv, h σ _ R' (((E1.frm R).trans (Frm.dropFor M fr (.list es))).trans fm)⟩
        · rw [if_neg hl] at h
          exact h.elim
      | tuple es =>
        have h : SPost F L AL ρ σ H D (if ds.length + es.length ≤ sizeLine ∧ (w = none ∨ noLs es = true) then putL i w (ds ++ es) (dropFor M fr (.tuple es) ρ) st1 else .stuck) := h
        by_cases hl : ds.length + es.length ≤ sizeLine ∧ (w = none ∨ noLs es = true)
        · rw [if_pos hl] at h
          have Rd := R1.dropFor M fr (.tuple es)
          obtain ⟨a', vs', A0, k1, k2, k3, k4, k5, k6, k7⟩ := rdL_at Rd q
          rw [h1] at k1
          cases k1
          have rv : ∃ b zs, v = .ref b ∧ SqT F.G.K H1 b zs ∧ Reps F.G L H1 A0 es zs := by
            rcases hl.2 with z | z
            · have t := told_nu R r fre
              rw [← k5 z] at t
              cases t with
              | tup t1 t2 t3 => exact ⟨_, _, rfl, t1.sq, t3⟩
            · cases r with
              | tup t1 t2 t3 => exact ⟨_, _, rfl, t1.sq, t3.free z⟩
          obtain ⟨b, zs, rfl, hb, rz⟩ := rv
          have hlv : vs'.length + zs.length ≤ sizeLine := by rw [← k4.length, ← rz.length]; exact hl.1
          obtain ⟨ρ', st', e1, R', fm⟩ := k7 _ _ (k4.append rz) (by rw [List.length_append]; exact hlv)
          rw [e1] at h
          exact ⟨a, b, vs', zs, rfl, rfl, k2, .inr (by rw [← hK]; exact hb), hlv, h σ _ R' (((E1.frm R).trans (Frm.dropFor M fr (.tuple es))).trans fm)⟩
        · rw [if_neg hl] at h
          exact h.elim
      | _ => exact h.elim
end
end Ev
end

section
set_option maxRecDepth 100000
set_option maxHeartbeats 2000000
namespace Ev
open PySem PySem.Spec PyProof.Rows L2
/-! ### sorted(a tuple) -/
section
variable {prog : Program} {w : World} {A : Around} {E : Value → Shared → Prop} {s : Shared}
theorem collect_tup {l : Addr} {vs : List Value} {Q : List Value → Shared → Prop} (hl : s.heap.IsTuple l vs.toArray)
    (h : Q vs { s with heap := (s.heap.push (seqObj "list" #[] 0)).update s.heap.objs.size (Obj.mapSeq (· ++ vs.toArray)) }) (hsz : vs.length ≤ sizeLine) :
    wpAny (model prog w) A (collect (.ref l)) Q E s := by
  obtain ⟨o, ho, hc, n, hd⟩ := id hl
  unfold collect
  refine wpAny_bind (wpAny_runValue (codeAny_builtin entry_proto_collect' ?_))
  show wpAny _ _ (do again (.builtin "list.__iadd__" ⟨[← newList [], .ref l], []⟩)) _ _ s
  refine wpAny_bind (wpAny_newList (wpAny_pure ⟨Code.quiet_builtin _ (by decide +kernel), codeAny_builtin entry_list_iadd' ?_⟩))
  show wpAny _ _ (Builtin.List.listExtendWith (.ref s.heap.objs.size) (.ref l) (.ref s.heap.objs.size)) _ _ { s with heap := s.heap.push (seqObj "list" #[] 0) }
  unfold Builtin.List.listExtendWith
  have ho' : (s.heap.push (seqObj "list" #[] 0)).get? l = some o := Heap.get?_push_of_some _ ho
  refine wpAny_bind (wpAny_typeOf (T := "tuple") ⟨o, ho', hc⟩ ?_)
  rw [if_pos (by rw [show (Value.type "tuple" == Value.type "tuple") = true by rfl]; simp)]
  refine wpAny_bind (listItems_at ho' hd ?_)
  refine wpAny_bind (listItems_at (xs := #[]) (n := 0) (Heap.get?_push_size _ rfl) rfl ?_)
  rw [if_neg (by simp)]
  refine wpAny_bind (listUpdate_at (xs := #[]) (n := 0) (Heap.get?_push_size _ rfl) rfl ?_ (Nat.zero_le _) (by show (#[] ++ vs.toArray).size ≤ sizeLine + 1; simp only [Array.size_append, List.size_toArray, List.length_nil]; omega))
  refine wpAny_pure ?_
  show wpAny (model prog w) A (do
      let o ← load s.heap.objs.size
      match o.data with
      | .seq xs _ => pure xs.toList
      | _ => unsupported "internal:collect") Q E { s with heap := (s.heap.push (seqObj "list" #[] 0)).update s.heap.objs.size (Obj.mapSeq (· ++ vs.toArray)) }
  refine wpAny_bind (wpAny_load (get?_update_seq (Heap.get?_push_size _ rfl) _) ?_)
  show wpAny _ _ (pure ((#[] : Array Value) ++ vs.toArray).toList) Q E _
  rw [show ((#[] : Array Value) ++ vs.toArray).toList = vs by simp]
  exact wpAny_pure h
theorem sorted_tup {β : Type} {vs : List Value} {bs : List β} {enc : β → PyData} {R : Value → β → Prop} {l : Addr} {Q : Value → Shared → Prop} (hl : s.heap.IsTuple l vs.toArray) (e : W.EachIs R vs bs) (er : W.EachIs (fun v b => ∃ as, Reads s.heap v (enc b) as) vs bs) (hal : W.AllAlike (bs.map enc)) (hk : W.Sortable (bs.map enc)) (hL : bs.length ≤ sizeLine)
    (hu : ∀ b, b ∈ bs → A.units + 2 + (enc b).depth < cLine) (h : ∀ out, out.length = bs.length → W.EachIs R out (bs.mergeSort (W.dataLe false enc)) → Q (.ref (s.heap.objs.size + 1)) { s with heap := sortedAll s.heap vs (List.toArray out) }) :
    wpAny (model prog w) A (call (.builtin "sorted") [.ref l]) Q E s := by
  have hv : vs.length ≤ sizeLine := by rw [e.length]; exact hL
  have er' : W.EachIs (fun v b => ∃ as, Reads (W.sortingHeap (W.copyHeap s.heap vs) (s.heap.objs.size + 1) vs) v (enc b) as) vs bs := er.mono fun _ _ ⟨as, r⟩ => ⟨as, PyProof.Rows.Reads.keeps (fun _ _ => W.sorting_copy_old) r⟩
  refine Calls.call_function_entry kind_sorted plain_sorted entry_sorted (args_sorted1 _) ?_
  unfold Builtin.«sorted»
  refine wpAny_bind (m := checkCount "sorted" 1 1 _) (wpAny_pure ?_)
  refine wpAny_bind (collect_tup hl ?_ hv)
  refine wpAny_bind (wpAny_newList ?_ hv)
  have hsz : ((s.heap.push (seqObj "list" #[] 0)).update s.heap.objs.size (Obj.mapSeq (· ++ vs.toArray))).objs.size = s.heap.objs.size + 1 := by
    rw [Heap.size_update, size_push']
  show wpAny _ _ _ _ _ { s with heap := W.copyHeap s.heap vs }
  rw [hsz]
  refine wpAny_bind (wpAny_holding (wpAny_call_entry slot_list_sort ⟨_, W.copyHeap_at s.heap vs, rfl⟩ entry_list_sort ?_ (args_list_sort _)))
  refine wpAny_mono (W.list_sort_vals (s := { s with heap := W.copyHeap s.heap vs }) (A := A.in1.in1) (P := fun f s' => f = .done (.ret .none) ∧ Q (.ref (s.heap.objs.size + 1)) s') (W.copyHeap_at s.heap vs) (W.SortsAt.data (s := { s with heap := W.sortingHeap (W.copyHeap s.heap vs) (s.heap.objs.size + 1) vs }) (W.each_map (R := fun v d => ∃ as, Reads (W.sortingHeap (W.copyHeap s.heap vs) (s.heap.objs.size + 1) vs) v d as) enc er') hal hk (W.bound_map (A := A.in1.in1) hu)) hv ⟨rfl, h _ (by rw [W.sortVals_length false rfl]; exact e.length) (W.sortVals_data false e er' hal)⟩) (fun f s' hf => ?_) fun _ _ e => e
  obtain ⟨rfl, hq⟩ := hf
  exact ⟨_, rfl, wpAny_pure ⟨_, rfl, hq⟩⟩
end
def sortedB : List PyData → Option PyData
  | [.list ds] => if okSort ds = true then some (.list (sortL ds)) else none
  | [.tuple ds] => if okSort ds = true then some (.list (sortL ds)) else none
  | _ => none
section
variable {X : Cx} {G : Gd}
theorem call_sortedB (hK : G.K = X.K) (hu : X.A.units + 67 < cLine) : CallR X (.builtin "sorted") (rV G true sortedB) := by
  intro pins s σ H xs us Q I rx h
  obtain ⟨L, A, ds0, w, rs, hw, k⟩ := rv_ex h
  unfold sortedB at hw
  split at hw
  · rename_i ds
    split at hw
    · rename_i ok
      cases hw
      obtain ⟨x, rfl, r⟩ := reps1 rs
      obtain ⟨u, rfl, ru⟩ := vals1 rx
      obtain ⟨o1, o2, o3, o4⟩ := okSort_of ok
      cases r with
      | @lst a vs _ h1 n1 q1 =>
        cases ru
        obtain ⟨its, rv, pl, hz⟩ := I.list h1.sq
        have e := each_rep q1 rv
        have hl := q1.length
        refine W.sorted_data (enc := id) (bs := ds) pl.isList e (each_reads e fun u d hd ⟨x, q, r⟩ => r.reads I hK (plain_mem o3 hd) q) (by simpa using o1) (by simpa using o2) (by omega) (fun d hd => by have := depth_mem hd; show X.A.units + 2 + d.depth < cLine; omega) fun out ho eo => ?_
        obtain ⟨ws, rw', rs'⟩ := each_back eo
        obtain ⟨c, hc⟩ := PyProof.Rows.sortedAll_at s.heap its out.toArray
        have hwl : ws.length ≤ sizeLine := by
          have := rw'.length
          omega
        have hp : H (s.heap.objs.size + 1) = none := I.hok.fresh (Nat.le_succ _)
        exact ⟨.ref _, _, I.laid (t' := s.toks) (o := .lst ws) (fun _ _ => PyProof.Rows.sortedAll_old) (Nat.le_succ _) ⟨hwl, out, c, rw', hc⟩, rfl, k_lst k hp hwl rs'⟩
    · cases hw
  · rename_i ds
    split at hw
    · rename_i ok
      cases hw
      obtain ⟨x, rfl, r⟩ := reps1 rs
      obtain ⟨u, rfl, ru⟩ := vals1 rx
      obtain ⟨o1, o2, o3, o4⟩ := okSort_of ok
      cases r with
      | @tup a vs _ h1 n1 q1 =>
        cases ru
        obtain ⟨its, rv, pl, hz⟩ := I.seqK (k := .t) (by rw [← hK]; exact h1.sq)
        have e := each_rep q1 rv
        have hl := q1.length
        refine sorted_tup (enc := id) (bs := ds) pl e (each_reads e fun u d hd ⟨x, q, r⟩ => r.reads I hK (plain_mem o3 hd) q) (by simpa using o1) (by simpa using o2) (by omega) (fun d hd => by have := depth_mem hd; show X.A.units + 2 + d.depth < cLine; omega) fun out ho eo => ?_
        obtain ⟨ws, rw', rs'⟩ := each_back eo
        obtain ⟨c, hc⟩ := PyProof.Rows.sortedAll_at s.heap its out.toArray
        have hwl : ws.length ≤ sizeLine := by
          have := rw'.length
          omega
        have hp : H (s.heap.objs.size + 1) = none := I.hok.fresh (Nat.le_succ _)
        exact ⟨.ref _, _, I.laid (t' := s.toks) (o := .lst ws) (fun _ _ => PyProof.Rows.sortedAll_old) (Nat.le_succ _) ⟨hwl, out, c, rw', hc⟩, rfl, k_lst k hp hwl rs'⟩
    · cases hw
  · cases hw
end
end Ev
end

section
set_option maxRecDepth 100000
set_option maxHeartbeats 2000000
namespace Ev
open PySem PySem.Spec PyProof.Rows L2
/-! ### x.remove(e), x an own list of whole numbers -/
def sRem (i : Nat) (f : DE) : DS := fun ρ st => if (ownL i ρ).isSome = true then eS (f ρ st) fun d st => match ownL i ρ, intOf d with
  | some ds, some z => match asInts ds with
    | some ns => if z ∈ ns ∧ ns.length < 1000000 then .nx (ρ.set i (some (.list ((ns.eraseIdx (ns.idxOf z)).map .int), true))) st else .stuck
    | none => .stuck
  | _, _ => .stuck else .stuck
section
variable {X : Cx} {F : Fx} {M : List Nat} {fr : Bool} {e : Expr} {f : DE} {pos p ap cp : Pos}
theorem ps_remD {i : Nat} {x : Str} (hN : X.N[i]? = some x) (hv : Vis X.env.scope x) (he : PE X e (tD F M fr f)) (hd : (x == ("__debug__" : Str)) = false := by decide) (hcd : (x == ("__classdict__" : Str)) = false := by decide)
    (hs : swapsWith (.Call (.Attribute (.Name x p) "remove" ap) [e] [] cp) none pos.line X.env = pure false := by rfl) (hbase : attributeBase (.Name x p) "remove" X.env (eval (.Name x p) X.env) = eval (.Name x p) X.env := by rfl)
    (hfew : ((backTo cp (starEach [e] X.env)).all (fun x => !x.1) && (backToKw cp (keywordEach [] X.env)).all (fun x => x.1.isSome) && decide ([e].length + ([] : List Keyword).length + (if ([] : List Keyword).isEmpty then 0 else 1) < 30)) = true := by rfl)
    (hline : (ap.endLine == cp.line) = true := by rfl) (hs1 : starEach [e] X.env = (false, eval e X.env) :: starEach [] X.env := by rfl) (hplain : (backTo cp (starEach [] X.env)).any (·.1) = false := by rfl) :
    PS X (.Expr (.Call (.Attribute (.Name x p) "remove" ap) [e] [] cp) pos) (tS F (sRem i f)) :=
  (ps_expr (pe_bm PySem.F.plainAttrs_list PySem.F.slot_list_remove PySem.F.type_list_remove mt_remove (pe_var hN hv hd hcd) (pa_cons he pa_nil hs1) hbase hfew hline hs1 hplain) hs).imp fun D σ H ⟨L, AL, ρ, st, R, h⟩ => by
    unfold sRem at h
    split at h
    · rename_i hc
      obtain ⟨ds, q1⟩ := Option.isSome_iff_exists.mp hc
      obtain ⟨a, vs, h1, h2, _⟩ := rdL_ref (st1 := st) R (ownL_rd q1)
      rw [q1] at h
      refine ⟨.ref a, h1, tyL h2, eS_read (M := M) (fr := fr) R h fun d st1 v H1 R1 E1 r fre hk => ?_⟩
      cases qi : intOf d with
      | none => simp only [qi] at hk; exact hk.elim
      | some z =>
        cases qn : asInts ds with
        | none => simp only [qi, qn] at hk; exact hk.elim
        | some ns =>
          simp only [qi, qn] at hk
          by_cases hl : z ∈ ns ∧ ns.length < 1000000
          · rw [if_pos hl] at hk
            obtain rfl : d = .int z := by
              cases d <;> simp [intOf] at qi
              rw [qi]
            cases r
            have ed := asInts_map qn
            subst ed
            obtain ⟨b, ws, A0, k1, k2, k3, k4, k5, k6, k7⟩ := rdL_at R1 (ownL_rd q1)
            rw [h1] at k1
            cases k1
            have ew := Reps.ints k4
            subst ew
            obtain ⟨ρ2, st2, e1, R2, fm⟩ := k7 ((ns.eraseIdx (ns.idxOf z)).map .int) ((ns.eraseIdx (ns.idxOf z)).map V.int) (reps_ints _) (by rw [List.length_map]; have := erase_len ns (ns.idxOf z); rw [sizeLine_eq]; omega)
            unfold putL at e1
            cases e1
            have hi := List.idxOf_lt_length_of_mem hl.1
            refine ⟨a, ns, z, ns.idxOf z, rfl, rfl, k2, ?_, ?_, hk σ _ R2 ((E1.frm R).trans fm)⟩
            · rw [List.getElem?_eq_getElem hi, List.getElem_idxOf]
            · intro m hm e
              have h3 := List.not_of_lt_findIdx (xs := ns) (p := (· == z)) (show m < ns.findIdx (· == z) from hm)
              have hml : m < ns.length := Nat.lt_trans hm hi
              rw [List.getElem?_eq_getElem hml] at e
              cases e
              simp at h3
          · rw [if_neg hl] at hk
            exact hk.elim
    · exact h.elim
end
end Ev
end

section
set_option maxRecDepth 100000
set_option maxHeartbeats 2000000
namespace Ev
open PySem PySem.Spec PyProof.Rows L2
/-! ### sum, all, any of a list or a tuple; max, min of alike data -/
def seqT : PyData → Option PyData
  | .tuple xs => some (.list xs)
  | d => some d
def sumB : List PyData → Option PyData
  | [.list xs] => (asInts xs).map fun ns => .int ns.sum
  | [.tuple xs] => (asInts xs).map fun ns => .int ns.sum
  | _ => none
def allB : List PyData → Option PyData
  | [.list xs] => (asBools xs).map fun bs => .bool (bs.all id)
  | [.tuple xs] => (asBools xs).map fun bs => .bool (bs.all id)
  | _ => none
def anyB : List PyData → Option PyData
  | [.list xs] => (asBools xs).map fun bs => .bool (bs.any id)
  | [.tuple xs] => (asBools xs).map fun bs => .bool (bs.any id)
  | _ => none
section
variable {X : Cx} {G : Gd}
theorem call_sumB (hK : G.K = X.K) (hc : X.calm = true) : CallR X (.builtin "sum") (rV G false sumB) := by
  intro pins s σ H xs us Q I rx h
  obtain ⟨L, A, ds, w, rs, hw, k⟩ := rv_ex h
  unfold sumB at hw
  split at hw
  · rename_i ys
    exact call_sumD hc pins s σ H xs us Q I rx ⟨L, A, [.list ys], rs, w, hw, k⟩
  · rename_i ys
    cases e : asInts ys with
    | none => rw [e] at hw; cases hw
    | some ns =>
      rw [e] at hw
      cases hw
      have e := asInts_map e
      subst e
      obtain ⟨x, rfl, r⟩ := reps1 rs
      cases r with
      | tup h1 n1 q1 =>
        have e2 := q1.ints
        subst e2
        obtain ⟨u, rfl, ru⟩ := vals1 rx
        cases ru
        obtain ⟨its, rv, pl, _⟩ := I.tuple (by rw [← hK]; exact h1.sq)
        have hi := rv.ints
        obtain ⟨zs, hx⟩ := hi.allInts.items
        have hn : numsOf its.toArray.toList = ns := by rw [show its.toArray.toList = its from rfl, hi.numsOf]
        rw [hx] at pl hn
        rw [nums_intItems] at hn
        refine PySem.W.ktm_sumG (I.ok.hd hc) pl fun h' tk t' hk => ⟨.int ns.sum, H, I.kept hk, ⟨t', ?_⟩, k_int k⟩
        rw [PySem.preSum_eq, List.take_of_length_le (by simp), hn]
  · cases hw
theorem call_allB (hK : G.K = X.K) (hc : X.calm = true) : CallR X (.builtin "all") (rV G false allB) := by
  intro pins s σ H xs us Q I rx h
  obtain ⟨L, A, ds, w, rs, hw, k⟩ := rv_ex h
  unfold allB at hw
  split at hw
  · rename_i ys
    exact call_allD hK hc pins s σ H xs us Q I rx ⟨L, A, [.list ys], rs, w, hw, k⟩
  · rename_i ys
    cases e : asBools ys with
    | none => rw [e] at hw; cases hw
    | some bs =>
      rw [e] at hw
      cases hw
      have e := asBools_map e
      subst e
      obtain ⟨x, rfl, r⟩ := reps1 rs
      cases r with
      | tup h1 n1 q1 =>
        obtain ⟨u, rfl, ru⟩ := vals1 rx
        cases ru
        obtain ⟨its, rv, pl, hz⟩ := I.tuple (by rw [← hK]; exact h1.sq)
        obtain ⟨as, hr⟩ := q1.reads I hK (bools_plain bs) rv
        refine PySem.W.all_tuple_data (I.ok.hd hc) pl (vs := its.toArray) hr (bools_plain bs) (fun x hx => ?_) fun h' tk kp => ⟨.bl (bs.all id), H, I.kept kp, by rw [truthy_bools]; rfl, k_bl k⟩
        obtain ⟨b, _, rfl⟩ := List.mem_map.mp hx
        trivial
  · cases hw
theorem call_anyB (hK : G.K = X.K) (hc : X.calm = true) : CallR X (.builtin "any") (rV G false anyB) := by
  intro pins s σ H xs us Q I rx h
  obtain ⟨L, A, ds, w, rs, hw, k⟩ := rv_ex h
  unfold anyB at hw
  split at hw
  · rename_i ys
    exact call_anyD hK hc pins s σ H xs us Q I rx ⟨L, A, [.list ys], rs, w, hw, k⟩
  · rename_i ys
    cases e : asBools ys with
    | none => rw [e] at hw; cases hw
    | some bs =>
      rw [e] at hw
      cases hw
      have e := asBools_map e
      subst e
      obtain ⟨x, rfl, r⟩ := reps1 rs
      cases r with
      | tup h1 n1 q1 =>
        obtain ⟨u, rfl, ru⟩ := vals1 rx
        cases ru
        obtain ⟨its, rv, pl, hz⟩ := I.tuple (by rw [← hK]; exact h1.sq)
        obtain ⟨as, hr⟩ := q1.reads I hK (bools_plain bs) rv
        refine PySem.W.any_tuple_data (I.ok.hd hc) pl (vs := its.toArray) hr (bools_plain bs) (fun x hx => ?_) fun h' tk kp => ⟨.bl (bs.any id), H, I.kept kp, by rw [truthy_boolsA]; rfl, k_bl k⟩
        obtain ⟨b, _, rfl⟩ := List.mem_map.mp hx
        trivial
  · cases hw
end
end Ev
end

section
set_option maxRecDepth 100000
set_option maxHeartbeats 2000000
namespace Ev
open PySem PySem.Spec PyProof.Rows L2
/-! ### <, <=, >, >=, min, max of alike data -/
def okCmp (d e : PyData) : Bool := W.alike d e && !isNo d && d.plain && e.plain && decide (d.depth ≤ 60)
def ltB : PyData → PyData → Option PyData
  | .int i, .int j => some (.bool (decide (i < j)))
  | d, e => if okCmp d e = true then some (.bool (W.dataLt d e)) else none
def gtB : PyData → PyData → Option PyData
  | .int i, .int j => some (.bool (decide (j < i)))
  | d, e => if okCmp d e = true then some (.bool (W.dataLt e d)) else none
def leB : PyData → PyData → Option PyData
  | .int i, .int j => some (.bool (decide (i ≤ j)))
  | d, e => if okCmp d e = true then some (.bool (!W.dataLt e d)) else none
def geB : PyData → PyData → Option PyData
  | .int i, .int j => some (.bool (decide (j ≤ i)))
  | d, e => if okCmp d e = true then some (.bool (!W.dataLt d e)) else none
section
variable {X : Cx} {G : Gd}
theorem okCmp_of {d e : PyData} (h : okCmp d e = true) : W.alike d e = true ∧ d ≠ .none ∧ d.plain = true ∧ e.plain = true ∧ d.depth ≤ 60 := by
  unfold okCmp at h
  simp only [Bool.and_eq_true, decide_eq_true_eq, Bool.not_eq_true'] at h
  obtain ⟨⟨⟨⟨h1, h2⟩, h3⟩, h4⟩, h5⟩ := h
  exact ⟨h1, (fun z => by subst z; cases h2), h3, h4, h5⟩
theorem op_ltB (hK : G.K = X.K) (hu : X.A.units + 64 < cLine) : OpR X (compareOp .Lt) (r2 G false ltB) := by
  intro pins s σ H x y v u Q I rx ry h
  obtain ⟨L, A, d, e, w, r1, r2, hw, k⟩ := r2_ex h
  unfold ltB at hw
  split at hw
  · cases hw
    cases r1; cases r2
    exact op_lt pins s σ H _ _ v u Q I rx ry ⟨_, _, rfl, rfl, k_bl k⟩
  · split at hw
    · rename_i ho
      cases hw
      obtain ⟨o1, o2, o3, o4, o5⟩ := okCmp_of ho
      obtain ⟨as, q1⟩ := r1.reads I hK o3 rx
      obtain ⟨bs, q2⟩ := r2.reads I hK o4 ry
      exact W.lt_data q1 q2 o1 o2 (by omega) ⟨.bl _, H, I, rfl, k_bl k⟩
    · cases hw
theorem op_gtB (hK : G.K = X.K) (hu : X.A.units + 64 < cLine) : OpR X (compareOp .Gt) (r2 G false gtB) := by
  intro pins s σ H x y v u Q I rx ry h
  obtain ⟨L, A, d, e, w, r1, r2, hw, k⟩ := r2_ex h
  unfold gtB at hw
  split at hw
  · cases hw
    cases r1; cases r2
    exact op_gt pins s σ H _ _ v u Q I rx ry ⟨_, _, rfl, rfl, k_bl k⟩
  · split at hw
    · rename_i ho
      cases hw
      obtain ⟨o1, o2, o3, o4, o5⟩ := okCmp_of ho
      obtain ⟨as, q1⟩ := r1.reads I hK o3 rx
      obtain ⟨bs, q2⟩ := r2.reads I hK o4 ry
      exact W.gt_data q1 q2 o1 o2 (by omega) ⟨.bl _, H, I, rfl, k_bl k⟩
    · cases hw
theorem op_leB (hK : G.K = X.K) (hu : X.A.units + 64 < cLine) : OpR X (compareOp .LtE) (r2 G false leB) := by
  intro pins s σ H x y v u Q I rx ry h
  obtain ⟨L, A, d, e, w, r1, r2, hw, k⟩ := r2_ex h
  unfold leB at hw
  split at hw
  · cases hw
    cases r1; cases r2
    exact op_le pins s σ H _ _ v u Q I rx ry ⟨_, _, rfl, rfl, k_bl k⟩
  · split at hw
    · rename_i ho
      cases hw
      obtain ⟨o1, o2, o3, o4, o5⟩ := okCmp_of ho
      obtain ⟨as, q1⟩ := r1.reads I hK o3 rx
      obtain ⟨bs, q2⟩ := r2.reads I hK o4 ry
      exact W.le_data q1 q2 o1 o2 (by omega) ⟨.bl _, H, I, rfl, k_bl k⟩
    · cases hw
theorem op_geB (hK : G.K = X.K) (hu : X.A.units + 64 < cLine) : OpR X (compareOp .GtE) (r2 G false geB) := by
  intro pins s σ H x y v u Q I rx ry h
  obtain ⟨L, A, d, e, w, r1, r2, hw, k⟩ := r2_ex h
  unfold geB at hw
  split at hw
  · cases hw
    cases r1; cases r2
    exact op_ge pins s σ H _ _ v u Q I rx ry ⟨_, _, rfl, rfl, k_bl k⟩
  · split at hw
    · rename_i ho
      cases hw
      obtain ⟨o1, o2, o3, o4, o5⟩ := okCmp_of ho
      obtain ⟨as, q1⟩ := r1.reads I hK o3 rx
      obtain ⟨bs, q2⟩ := r2.reads I hK o4 ry
      exact W.ge_data q1 q2 o1 o2 (by omega) ⟨.bl _, H, I, rfl, k_bl k⟩
    · cases hw
theorem boolB {g : PyData → PyData → Option PyData} (h : g = ltB ∨ g = leB ∨ g = gtB ∨ g = geB ∨ g = eqD ∨ g = neD ∨ g = isInD ∨ g = notInD) : ∀ d e w, g d e = some w → ∃ k, w = .bool k := by
  intro d e w hw
  rcases h with rfl | rfl | rfl | rfl | h
  · unfold ltB at hw; split at hw
    · cases hw; exact ⟨_, rfl⟩
    · split at hw <;> cases hw; exact ⟨_, rfl⟩
  · unfold leB at hw; split at hw
    · cases hw; exact ⟨_, rfl⟩
    · split at hw <;> cases hw; exact ⟨_, rfl⟩
  · unfold gtB at hw; split at hw
    · cases hw; exact ⟨_, rfl⟩
    · split at hw <;> cases hw; exact ⟨_, rfl⟩
  · unfold geB at hw; split at hw
    · cases hw; exact ⟨_, rfl⟩
    · split at hw <;> cases hw; exact ⟨_, rfl⟩
  · exact boolD (.inr (.inr (.inr (.inr h)))) d e w hw
end
/-! min, max of a list or tuple of alike data -/
def alikeL (xs : List PyData) : Bool := (xs.all fun x => xs.all fun y => W.alike x y) && (xs.all fun x => !isNo x) && PyData.plainAll xs && decide (PyData.depthAll xs ≤ 60)
def minS : List PyData → Option PyData
  | x :: xs => if alikeL (x :: xs) = true ∧ noLs (x :: xs) = true then some (W.minD x xs) else none
  | [] => none
def maxS : List PyData → Option PyData
  | x :: xs => if alikeL (x :: xs) = true ∧ noLs (x :: xs) = true then some (W.maxD x xs) else none
  | [] => none
def minB : List PyData → Option PyData
  | [.list xs] => minS xs
  | [.tuple xs] => minS xs
  | _ => none
def maxB : List PyData → Option PyData
  | [.list xs] => maxS xs
  | [.tuple xs] => maxS xs
  | _ => none
section
variable {X : Cx} {G : Gd}
theorem alikeL_of {xs : List PyData} (h : alikeL xs = true) : W.AlikeAll xs ∧ PyData.plainAll xs = true ∧ PyData.depthAll xs ≤ 60 := by
  unfold alikeL at h
  simp only [Bool.and_eq_true, decide_eq_true_eq, List.all_eq_true, Bool.not_eq_true'] at h
  obtain ⟨⟨⟨h1, h2⟩, h3⟩, h4⟩ := h
  exact ⟨⟨h1, (fun x hx z => by subst z; have := h2 _ hx; cases this)⟩, h3, h4⟩
/-- the item that is told is one of those that stand there -/
theorem pick_item {pins : List (Addr × Obj)} {σ : L2.St} {H : Hp} {s : Shared} {L : List Addr} {A : Addr → Prop} {xs : List PyData} {vs : List V} {its : List Value} {d : PyData} {h' : Heap} {bs : List Addr} {i : Nat} {v : Value} (hK : G.K = X.K) (I : Inv X pins σ H s) (rs : Reps G L H A xs vs) (rv : Vals vs its) (hp : PyData.plainAll xs = true)
    (kp : ∀ b o, s.heap.get? b = some o → h'.get? b = some o) (hi : its[i]? = some v) (r : Reads h' v d bs) : ∃ x, Rep G L H A d x ∧ RelV x v ∧ d ∈ xs := by
  have hl := rv.length
  obtain ⟨hil, _⟩ := List.getElem?_eq_some_iff.mp hi
  obtain ⟨x, hx⟩ : ∃ x, vs[i]? = some x := ⟨_, List.getElem?_eq_getElem (by omega)⟩
  obtain ⟨d', hd', r'⟩ := rs.get hx
  obtain ⟨v', hv', rx⟩ := rv.get hx
  rw [hi] at hv'
  cases hv'
  have hm := List.mem_of_getElem? hd'
  have pl := plain_mem hp hm
  obtain ⟨as, q⟩ := r'.reads I hK pl rx
  have e := SeqAt.plain_unique d' d v as bs pl (PyProof.Rows.Reads.keeps kp q) r
  subst e
  exact ⟨x, r', rx, hm⟩
theorem noLs_mem {xs : List PyData} (h : noLs xs = true) {d : PyData} (hd : d ∈ xs) : noL d = true := by
  induction xs with
  | nil => cases hd
  | cons x xs ih =>
    have h : (noL x && noLs xs) = true := h
    rw [Bool.and_eq_true] at h
    rcases List.mem_cons.mp hd with rfl | hd
    · exact h.1
    · exact ih h.2 hd
theorem call_minB (hK : G.K = X.K) (hc : X.calm = true) (hu : X.A.units + 67 < cLine) : CallR X (.builtin "min") (rV G false minB) := by
  intro pins s σ H xs us Q I rx h
  obtain ⟨L, A, ds0, w, rs, hw, k⟩ := rv_ex h
  unfold minB at hw
  split at hw
  · rename_i ys
    cases ys with
    | nil => cases hw
    | cons y ys =>
      have hw : (if alikeL (y :: ys) = true ∧ noLs (y :: ys) = true then some (W.minD y ys) else none) = some w := hw
      split at hw
      · rename_i ok
        cases hw
        obtain ⟨o1, o2, o3⟩ := alikeL_of ok.1
        obtain ⟨x, rfl, r⟩ := reps1 rs
        obtain ⟨u, rfl, ru⟩ := vals1 rx
        cases r with
        | lst h1 n1 q1 =>
          cases ru
          obtain ⟨its, rv, pl, _⟩ := I.list h1.sq
          obtain ⟨as, hr⟩ := q1.reads I hK o2 rv
          refine PySem.W.min_list_data (I.ok.hd hc) pl.isList (vs := its.toArray) hr o1 (by omega) fun i v h' tk bs hi rd kp => ?_
          obtain ⟨x, rx, rvx, hm⟩ := pick_item hK I q1 rv o2 kp (by simpa using hi) rd
          exact ⟨x, H, I.kept kp, rvx, k_old k rx fun z => by cases z⟩
      · cases hw
  · rename_i ys
    cases ys with
    | nil => cases hw
    | cons y ys =>
      have hw : (if alikeL (y :: ys) = true ∧ noLs (y :: ys) = true then some (W.minD y ys) else none) = some w := hw
      split at hw
      · rename_i ok
        cases hw
        obtain ⟨o1, o2, o3⟩ := alikeL_of ok.1
        obtain ⟨x, rfl, r⟩ := reps1 rs
        obtain ⟨u, rfl, ru⟩ := vals1 rx
        cases r with
        | tup h1 n1 q1 =>
          cases ru
          obtain ⟨its, rv, pl, _⟩ := I.tuple (by rw [← hK]; exact h1.sq)
          obtain ⟨as, hr⟩ := q1.reads I hK o2 rv
          refine PySem.W.min_tuple_data (I.ok.hd hc) pl (vs := its.toArray) hr o1 (by omega) fun i v h' tk bs hi rd kp => ?_
          obtain ⟨x, rx, rvx, hm⟩ := pick_item hK I q1 rv o2 kp (by simpa using hi) rd
          exact ⟨x, H, I.kept kp, rvx, k_old k rx fun z => by cases z⟩
      · cases hw
  · cases hw
theorem call_maxB (hK : G.K = X.K) (hc : X.calm = true) (hu : X.A.units + 67 < cLine) : CallR X (.builtin "max") (rV G false maxB) := by
  intro pins s σ H xs us Q I rx h
  obtain ⟨L, A, ds0, w, rs, hw, k⟩ := rv_ex h
  unfold maxB at hw
  split at hw
  · rename_i ys
    cases ys with
    | nil => cases hw
    | cons y ys =>
      have hw : (if alikeL (y :: ys) = true ∧ noLs (y :: ys) = true then some (W.maxD y ys) else none) = some w := hw
      split at hw
      · rename_i ok
        cases hw
        obtain ⟨o1, o2, o3⟩ := alikeL_of ok.1
        obtain ⟨x, rfl, r⟩ := reps1 rs
        obtain ⟨u, rfl, ru⟩ := vals1 rx
        cases r with
        | lst h1 n1 q1 =>
          cases ru
          obtain ⟨its, rv, pl, _⟩ := I.list h1.sq
          obtain ⟨as, hr⟩ := q1.reads I hK o2 rv
          refine PySem.W.max_list_data (I.ok.hd hc) pl.isList (vs := its.toArray) hr o1 (by omega) fun i v h' tk bs hi rd kp => ?_
          obtain ⟨x, rx, rvx, hm⟩ := pick_item hK I q1 rv o2 kp (by simpa using hi) rd
          exact ⟨x, H, I.kept kp, rvx, k_old k rx fun z => by cases z⟩
      · cases hw
  · rename_i ys
    cases ys with
    | nil => cases hw
    | cons y ys =>
      have hw : (if alikeL (y :: ys) = true ∧ noLs (y :: ys) = true then some (W.maxD y ys) else none) = some w := hw
      split at hw
      · rename_i ok
        cases hw
        obtain ⟨o1, o2, o3⟩ := alikeL_of ok.1
        obtain ⟨x, rfl, r⟩ := reps1 rs
        obtain ⟨u, rfl, ru⟩ := vals1 rx
        cases r with
        | tup h1 n1 q1 =>
          cases ru
          obtain ⟨its, rv, pl, _⟩ := I.tuple (by rw [← hK]; exact h1.sq)
          obtain ⟨as, hr⟩ := q1.reads I hK o2 rv
          refine PySem.W.max_tuple_data (I.ok.hd hc) pl (vs := its.toArray) hr o1 (by omega) fun i v h' tk bs hi rd kp => ?_
          obtain ⟨x, rx, rvx, hm⟩ := pick_item hK I q1 rv o2 kp (by simpa using hi) rd
          exact ⟨x, H, I.kept kp, rvx, k_old k rx fun z => by cases z⟩
      · cases hw
  · cases hw
end
end Ev
end

section
set_option maxRecDepth 100000
set_option maxHeartbeats 2000000
namespace Ev
open PySem PySem.Spec PyProof.Rows L2
/-! ### {k: v}, a dict with a row as its one key -/
def eD1 (fk fv : DE) : DE := fun ρ st => (fk ρ st).bind fun k st => match rowOf k with
  | some _ => (fv ρ st).bind fun d st => if noL d = true then .ok (rdict [(k, d)]) st else .stuck
  | none => .stuck
theorem adopt {X : Cx} {pins : List (Addr × Obj)} {σ : L2.St} {H : Hp} {s : Shared} {a : Addr} {o : HO} (I : Inv X pins σ H s) (hf : FpOk X pins H a) (new : ObjOk X.prog X.w (upd H a o) s.heap a o) : Inv X pins σ (upd H a o) s := by
  have hn := hf.1
  have := I.step (h' := s.heap) (g' := s.gens) (d' := s.drawn) (t' := s.toks) (H' := upd H a o) (ch := [a]) (fun b hb => by
    have e : b = a := by simpa using hb
    subst e
    exact ⟨hf.2.2.2.1, hf.2.1, hf.2.2.2.2.1, hf.2.2.2.2.2⟩) (fun b o _ _ _ e _ => e) (fun b o _ _ _ e _ => ⟨o.slots, e⟩) (fun b o hc _ n => by rw [upd_ne (fun z => hc (by simp [z]))]; exact n)
    (fun b o _ e => ⟨o, e⟩) (fun b xs e => by rw [upd_ne (ne_of_none e hn)]; exact e) (fun b o u e => by rw [upd_ne (ne_of_none e hn)]; exact e) (fun b ps e => ⟨#[], by rw [upd_ne (ne_of_none e hn), e]; simp⟩) (fun m hm => hm) (fun b u e => by
      by_cases hb : b = a
      · subst hb; rw [upd_same] at e; cases e; exact new
      · rw [upd_ne hb] at e
        exact (I.hok b u e).stay (fun c v _ q => q) (fun c q => by rw [upd_ne (ne_of_none q hn)]; exact q) fun c xs q => by rw [upd_ne (ne_of_none q hn)]; exact q) I.bare
  exact this
section
variable {X : Cx} {F : Fx} {M1 M2 : List Nat} {fr1 fr2 : Bool} {ke ve : Expr} {fk fv : DE} {pos : Pos}
theorem pe_dict1D (hK : F.G.K = X.K) (hP : F.G.P = X.prog ∧ F.G.w = X.w) (hu : X.A.units + 66 < cLine) (hk : PE X ke (tD F M1 fr1 fk)) (hv : PE X ve (tD F M2 fr2 fv))
    (hshape : (evalEachOpt [some ke] X.env).zip ((evalEach [ve] X.env).map fun v => do let x ← v; standAt pos; pure x) = [(some (eval ke X.env), do let x ← eval ve X.env; standAt pos; pure x)] := by rfl) :
    PE X (.Dict [some ke] [ve] pos) (tD F [] true (eD1 fk fv)) := by
  refine ⟨fun pins s σ H Q I ⟨L, AL, ρ, st, R, h⟩ => ?_⟩
  obtain ⟨dO, hdO⟩ : ∃ o : Obj, o = { cls := .type "dict", data := .dict #[] } := ⟨_, rfl⟩
  have hn := I.hok.fresh (Nat.le_refl s.heap.objs.size)
  have sm : (s.heap.objs.size == sysModules) = false := beq_eq_false_iff_ne.mpr (Ne.symm (Nat.ne_of_lt I.big))
  have fp0 : FpOk X pins H s.heap.objs.size := I.fpOk (Nat.le_refl _) hn
  have I0 : Inv X pins σ H { s with heap := s.heap.push dO } := I.kept (t' := s.toks) fun b o e => Heap.get?_push_of_some _ e
  have g0 : (s.heap.push dO).get? s.heap.objs.size = some dO := by rw [hdO]; exact Heap.get?_push_size _ rfl
  have Ip : Inv X ((s.heap.objs.size, dO) :: pins) σ H { s with heap := s.heap.push dO } := I0.pins_of fun p hp => by
    rcases List.mem_cons.mp hp with rfl | hp
    · exact ⟨g0, hn, fp0.2.1, fp0.2.2.1, fun v z => by rw [hdO] at z; cases z⟩
    · exact I0.pin p (List.mem_append_right _ hp)
  rw [arm_eval_Dict, hshape]
  rw [show ([(some (eval ke X.env), do let x ← eval ve X.env; standAt pos; pure x)] : List (Option (Sem Value) × Sem Value)) = [(eval ke X.env, do let x ← eval ve X.env; standAt pos; pure x)].map fun p => (some p.1, p.2) from rfl,
    dictDisplay_pairs _ (by simp) (by simp)]
  refine wpAny_bind (wpAny_standAt (wpAny_bind (wpAny_subDictH (knd := tupleKind (mixKind X.prog X.w)) (Q := fun d s' => wpAny (model X.prog X.w) X.A (pure (Value.ref d)) (EP X pins σ Q) X.xe s') (by show X.A.units < cLine; omega) (by simp) ?_)))
  rw [← hdO]
  refine evalPairs_cons (thn (hk.run _ _ σ H (fun x H1 => ∃ k st1 r, Rel F L AL ρ st1 σ H1 ∧ Ext L H H1 ∧ Rep F.G L H1 (AP (L ++ F.Z) ρ σ M1 H) k x ∧ rowOf k = some r ∧ DPost F L AL ρ σ H [] true Q ((fv ρ st1).bind fun d st => if noL d = true then .ok (rdict [(k, d)]) st else .stuck)) Ip
    (tD_bind (P := DPost F L AL ρ σ H [] true Q) R h (fun x st' h => h) (fun h => h) fun k st1 x H1 R1 E1 rk _ h => ?_)) fun ku s1 ⟨x, H1, I1, rx, k, st1, r, R1, E1, rk, hr, h⟩ => ?_)
  · cases hr : rowOf k with
    | none => rw [hr] at h; exact h.elim
    | some r =>
      rw [hr] at h
      exact ⟨k, st1, r, R1, E1, rk, hr, h⟩
  refine wpAny_bind (thn (hv.run _ s1 σ H1 (fun y H2 => ∃ d st2, Rel F L AL ρ st2 σ H2 ∧ Ext L H1 H2 ∧ Rep F.G L H2 (AP (L ++ F.Z) ρ σ M2 H1) d y ∧ noL d = true ∧ DPost F L AL ρ σ H [] true Q (.ok (rdict [(k, d)]) st2)) I1
    (tD_bind (P := DPost F L AL ρ σ H [] true Q) R1 h (fun x st' h cls dd H' R' E' xr => h cls dd H' R' (E1.trans E') xr) (fun h => h) fun d st2 y H2 R2 E2 rd _ h => ?_)) fun vu s2 ⟨y, H2, I2, ry, d, st2, R2, E2, rd, hd, h⟩ => ?_)
  · have h : DPost F L AL ρ σ H [] true Q (if noL d = true then .ok (rdict [(k, d)]) st2 else .stuck) := h
    by_cases hd : noL d = true
    · rw [if_pos hd] at h
      exact ⟨d, st2, R2, E2, rd, hd, h⟩
    · rw [if_neg hd] at h
      exact h.elim
  refine wpAny_bind (wpAny_standAt (wpAny_pure (evalPairs_nil ?_)))
  obtain ⟨g2, n2, _⟩ := I2.pin (s.heap.objs.size, dO) (List.mem_append_right _ List.mem_cons_self)
  have I2' : Inv X pins σ H2 s2 := I2.pins_of fun p hp => I2.pin p (List.mem_append_right _ (List.mem_cons_of_mem _ hp))
  have rk2 := Rep.later R1 E2 rk
  obtain ⟨b, rfl, tb, nb⟩ := rk2.rowT hr
  cases rx
  have kis := key_is (X := X) hK I2' tb
  refine ⟨[(rowK r, b, vu)], ⟨rfl, rfl, kis, trivial⟩, ⟨dO, #[], 0, g2, by rw [hdO]; exact ⟨rfl, rfl, rfl⟩, by rw [hdO], rfl, fun x hx => by simp at hx, List.nodup_nil⟩, fun h' tk dd hs => wpAny_pure ?_⟩
  have fp2 : FpOk X pins H2 s.heap.objs.size := ⟨n2, fp0.2⟩
  have I3 : Inv X pins σ H2 { s2 with heap := h', toks := tk } := I2'.turned (t' := tk) (fun b c hb e => (hs.2 b hb).trans e) n2 fp0.2.1 fp0.2.2.2.1 fp0.2.2.2.2.1 fp0.2.2.2.2.2
  have st : storedAllH ([] : List (List Key × Addr × Value)) [(rowK r, b, vu)] = [(rowK r, b, vu)] := rfl
  rw [st] at dd
  obtain ⟨ob, es, ep, q1, q2, q3, q4, q5, q6⟩ := dd
  have dt : DtObj F.G s.heap.objs.size ob [(r, b, y)] := ⟨sm, q2, es, ep, _, q3, by rw [hP.1, hP.2]; exact q4, q6, .cons ⟨rfl, rfl, ry⟩ .nil⟩
  have I4 : Inv X pins σ (upd H2 s.heap.objs.size (dtO s.heap.objs.size ob)) { s2 with heap := h', toks := tk } := adopt I3 fp2 ⟨q1, ⟨ob, q1⟩, fun h1 h2 z w => w _ z⟩
  have tb4 : TuP F.G.K (upd H2 s.heap.objs.size (dtO s.heap.objs.size ob)) b (r.map V.int) := TuP.kp (A := fun _ => True) (fun c o e _ _ => same_upd n2 c o e) tb
  have rd4 : ∀ {A' : Addr → Prop}, Rep F.G L (upd H2 s.heap.objs.size (dtO s.heap.objs.size ob)) A' d y := Rep.free (rd.keep fun c o e _ _ => same_upd n2 c o e) hd
  have ek := rowOf_eq hr
  refine ⟨.ref s.heap.objs.size, _, I4, rfl, ?_⟩
  have h : DPost F L AL ρ σ H [] true Q (.ok (rdict [(k, d)]) st2) := h
  rw [ek] at h
  exact h _ _ (R2.same (same_upd n2)) ((E1.trans E2).trans (.of_same (same_upd n2))) (.dit upd_same ⟨R2.notZ n2, .inl hn⟩ (by rw [sizeLine_eq]; simp) dt (.cons tb4 (by simpa using nb) rd4 .nil)) fun _ _ => ⟨_, _, rfl, hn, upd_same, .dT (by rw [sizeLine_eq]; simp) dt (.cons tb4 (by simpa using nb) rd4 .nil)⟩
end
end Ev
end

section
set_option maxRecDepth 100000
set_option maxHeartbeats 2000000
namespace Ev
open PySem PySem.Spec PyProof.Rows L2
/-! ### a value without lists may be told with no names -/
def eNl (f : DE) : DE := fun ρ st => (f ρ st).bind fun d st => if noL d = true then .ok d st else .stuck
section
variable {X : Cx} {F : Fx} {M : List Nat} {fr : Bool} {e : Expr} {f : DE}
theorem pe_nlD (h : PE X e (tD F M fr f)) : PE X e (tD F [] false (eNl f)) := h.imp fun σ H Q ⟨L, AL, ρ, st, R, h⟩ => by
  refine tD_bind (P := DPost F L AL ρ σ H [] false Q) R h (fun x st' h => h) (fun h => h) fun d st1 v H1 R1 E1 r fre h => ?_
  by_cases hc : noL d = true
  · rw [if_pos hc] at h
    exact h _ H1 R1 E1 (r.free hc) fun z => by cases z
  · rw [if_neg hc] at h
    exact h.elim
end
end Ev
end

section
set_option maxRecDepth 100000
set_option maxHeartbeats 400000
namespace Ev
open PySem PySem.Spec PyProof.Rows L2
/-! ### typed values and the simp rules that reckon a mirror -/
class Enc (α : Type) where
  enc : α → PyData
  noL : ∀ a, Ev.noL (enc a) = true
  plain : ∀ a, (enc a).plain = true
  nmt : ∀ a, mutD (enc a) = false
  dep : Nat
  depth : ∀ a, (enc a).depth ≤ dep
open Enc (enc)
class EncE (α : Type) [BEq α] [LawfulBEq α] extends Enc α where
  eqv : ∀ a b, PyData.eqv (enc a) (enc b) = (a == b)
  sh : dep ≤ 64
instance : EncE Nat where
  enc n := .int (n : Int)
  noL _ := rfl
  plain _ := rfl
  nmt _ := rfl
  dep := 0
  depth _ := Nat.le_refl _
  eqv a b := by
    show ((a : Int) == (b : Int)) = (a == b)
    rw [Bool.eq_iff_iff, beq_iff_eq, beq_iff_eq]
    omega
  sh := by decide
instance : EncE Int where
  enc n := .int n
  noL _ := rfl
  plain _ := rfl
  nmt _ := rfl
  dep := 0
  depth _ := Nat.le_refl _
  eqv a b := rfl
  sh := by decide
instance : EncE Bool where
  enc n := .bool n
  noL _ := rfl
  plain _ := rfl
  nmt _ := rfl
  dep := 0
  depth _ := Nat.le_refl _
  eqv a b := rfl
  sh := by decide
/-- a result -/
instance : EncE (Option Bool) where
  enc n := match n with | none => .none | some b => .int (b.toNat : Int)
  noL a := by cases a <;> rfl
  plain a := by cases a <;> rfl
  nmt a := by cases a <;> rfl
  dep := 0
  depth a := by cases a <;> exact Nat.le_refl _
  eqv a b := by cases a with
    | none => cases b with
      | none => rfl
      | some b => cases b <;> rfl
    | some a => cases b with
      | none => cases a <;> rfl
      | some b => cases a <;> cases b <;> rfl
  sh := by decide
section
variable {α β : Type} [BEq α] [LawfulBEq α] [BEq β] [LawfulBEq β] [EncE α] [EncE β]
theorem enc_plainAll (l : List α) : PyData.plainAll (l.map enc) = true := by
  induction l with
  | nil => rfl
  | cons a l ih => rw [List.map_cons, PyData.plainAll, ih, Enc.plain]; rfl
theorem enc_noLs (l : List α) : noLs (l.map enc) = true := by
  induction l with
  | nil => rfl
  | cons a l ih => rw [List.map_cons]; show (noL _ && noLs _) = true; rw [ih, Enc.noL]; rfl
theorem enc_depthAll (l : List α) : PyData.depthAll (l.map enc) ≤ Enc.dep α := by
  induction l with
  | nil => exact Nat.zero_le _
  | cons a l ih => rw [List.map_cons, PyData.depthAll]; have := Enc.depth a; omega
theorem enc_eqvAll (l m : List α) : PyData.eqvAll (l.map enc) (m.map enc) = (l == m) := by
  induction l generalizing m with
  | nil => cases m <;> rfl
  | cons a l ih =>
    cases m with
    | nil => rfl
    | cons b m =>
      rw [List.map_cons, List.map_cons, PyData.eqvAll, ih, EncE.eqv]
      rfl
end
/-- a tuple of alike values; of depth d -/
@[reducible] def encList {α : Type} [BEq α] [LawfulBEq α] [EncE α] (h : Enc.dep α + 1 ≤ 64) : EncE (List α) where
  enc l := .tuple (l.map enc)
  noL l := by
    show noL.noLs _ = true
    rw [noLs_eq, enc_noLs]
  plain l := enc_plainAll l
  nmt _ := rfl
  dep := Enc.dep α + 1
  depth l := Nat.succ_le_succ (enc_depthAll l)
  eqv l m := by
    show PyData.eqvAll _ _ = _
    exact enc_eqvAll l m
  sh := h
@[reducible] def encProd {α β : Type} [BEq α] [LawfulBEq α] [EncE α] [BEq β] [LawfulBEq β] [EncE β] (h : max (Enc.dep α) (Enc.dep β) + 1 ≤ 64) : EncE (α × β) where
  enc p := .tuple [enc p.1, enc p.2]
  noL p := by
    show (noL _ && (noL _ && true)) = true
    rw [Enc.noL, Enc.noL]; rfl
  plain p := by
    show (PyData.plain _ && (PyData.plain _ && true)) = true
    rw [Enc.plain, Enc.plain]; rfl
  nmt _ := rfl
  dep := max (Enc.dep α) (Enc.dep β) + 1
  depth p := by
    show max _ (max _ 0) + 1 ≤ _
    have := Enc.depth p.1
    have := Enc.depth p.2
    omega
  eqv p q := by
    show (PyData.eqv _ _ && (PyData.eqv _ _ && true)) = _
    rw [EncE.eqv, EncE.eqv, Bool.and_true]
    rfl
  sh := h
instance : EncE (List Nat) := encList (by decide)
instance : EncE (List Int) := encList (by decide)
instance : EncE (List Bool) := encList (by decide)
instance : EncE (List (Option Bool)) := encList (by decide)
instance : EncE (List (List Nat)) := encList (by decide)
instance : EncE (List (List (List Nat))) := encList (by decide)
instance : EncE (Nat × Nat) := encProd (by decide)
instance : EncE (List (Nat × Nat)) := encList (by decide)
instance : EncE (Nat × List Nat) := encProd (by decide)
instance : EncE (List (Nat × List Nat)) := encList (by decide)
instance : EncE (List Nat × List Nat) := encProd (by decide)
section
variable {α β : Type} [BEq α] [LawfulBEq α] [BEq β] [LawfulBEq β] [EncE α] [EncE β]
@[simp] theorem enc_nat (n : Nat) : enc n = PyData.int n := id rfl
@[simp] theorem enc_int (n : Int) : enc n = PyData.int n := id rfl
@[simp] theorem enc_bool (n : Bool) : enc n = PyData.bool n := id rfl
@[simp] theorem enc_list (h : Enc.dep α + 1 ≤ 64) (l : List α) : @enc (List α) (encList h).toEnc l = PyData.tuple (l.map enc) := id rfl
@[simp] theorem enc_prod (h : max (Enc.dep α) (Enc.dep β) + 1 ≤ 64) (a : α) (b : β) : @enc (α × β) (encProd h).toEnc (a, b) = PyData.tuple [enc a, enc b] := id rfl
@[simp] theorem noL_enc (a : α) : noL (enc a) = true := Enc.noL a
@[simp] theorem noL_int (a : Int) : noL (.int a) = true := id rfl
@[simp] theorem noL_bool (a : Bool) : noL (.bool a) = true := id rfl
@[simp] theorem noL_none : noL .none = true := id rfl
@[simp] theorem noL_str (a : Str) : noL (.str a) = true := id rfl
@[simp] theorem noL_loc (a : Nat) : noL (loc a) = true := id rfl
@[simp] theorem noL_fnv (a : Nat) : noL (fnv a) = true := id rfl
@[simp] theorem noL_raw (a : Nat) : noL (rawv a) = true := id rfl
@[simp] theorem noL_lea (t : Int) (g : PyData) : noL (lea t g) = noL g := id rfl
@[simp] theorem noL_tup (xs : List PyData) : noL (.tuple xs) = noLs xs := by
  show noL.noLs xs = _
  rw [noLs_eq]
@[simp] theorem noL_lst (xs : List PyData) : noL (.list xs) = false := id rfl
@[simp] theorem noLs_nil : noLs [] = true := id rfl
@[simp] theorem noLs_cons (x : PyData) (xs : List PyData) : noLs (x :: xs) = (noL x && noLs xs) := id rfl
@[simp] theorem noLs_map (l : List α) : noLs (l.map enc) = true := enc_noLs l
@[simp] theorem mutD_enc (a : α) : mutD (enc a) = false := Enc.nmt a
@[simp] theorem mutD_int (a : Int) : mutD (.int a) = false := id rfl
@[simp] theorem mutD_bool (a : Bool) : mutD (.bool a) = false := id rfl
@[simp] theorem mutD_none : mutD .none = false := id rfl
@[simp] theorem mutD_str (a : Str) : mutD (.str a) = false := id rfl
@[simp] theorem mutD_loc (a : Nat) : mutD (loc a) = false := id rfl
@[simp] theorem mutD_lea (t : Int) (g : PyData) : mutD (lea t g) = false := id rfl
@[simp] theorem mutD_tup (xs : List PyData) : mutD (.tuple xs) = false := id rfl
@[simp] theorem mutD_lst (xs : List PyData) : mutD (.list xs) = true := id rfl
@[simp] theorem inner0_lst (xs : List PyData) : inner0 (.list xs) = noLs xs := id rfl
variable {ρ : EnvD} {st : Store}
@[simp] theorem ap_eC (d : PyData) : eC d ρ st = .ok d st := id rfl
@[simp] theorem ap_eVar0 {d : PyData} {b : Bool} : eVar 0 (some (d, b) :: ρ) st = .ok d st := id rfl
@[simp] theorem ap_eVarS {n : Nat} {x : Slot} : eVar (n + 1) (x :: ρ) st = eVar n ρ st := id rfl
@[simp] theorem ap_eNil : eNil ρ st = .ok [] st := id rfl
@[simp] theorem ap_eCons {f : DE} {fs : DEs} : eCons f fs ρ st = (f ρ st).bind fun d st => (fs ρ st).bind fun ds st => .ok (d :: ds) st := id rfl
@[simp] theorem ap_eOp {g : PyData → PyData → Option PyData} {a b : DE} : eOp g a b ρ st = (a ρ st).bind fun x st => (b ρ st).bind fun y st => .of (g x y) st := id rfl
@[simp] theorem ap_eUn {g : PyData → Option PyData} {a : DE} : eUn g a ρ st = (a ρ st).bind fun x st => .of (g x) st := id rfl
@[simp] theorem ap_eArgs {g : List PyData → Option PyData} {fs : DEs} : eArgs g fs ρ st = (fs ρ st).bind fun ds st => .of (g ds) st := id rfl
@[simp] theorem ap_eTup {fs : DEs} : eTup fs ρ st = (fs ρ st).bind fun ds st => if lineL ds = true then .ok (.tuple ds) st else .stuck := id rfl
@[simp] theorem ap_eLst {fs : DEs} : eLst fs ρ st = (fs ρ st).bind fun ds st => if lineL ds = true then .ok (.list ds) st else .stuck := id rfl
@[simp] theorem ap_eB {f : DE} : eB f ρ st = (f ρ st).bind fun d st => .of (asB d) st := id rfl
@[simp] theorem asB_bool (b : Bool) : asB (.bool b) = some b := id rfl
@[simp] theorem ap_eAnd {a b : DE} : eAnd a b ρ st = (eB a ρ st).bind fun x st => if x = true then b ρ st else .ok (.bool false) st := id rfl
@[simp] theorem ap_eOr {a b : DE} : eOr a b ρ st = (eB a ρ st).bind fun x st => if x = true then .ok (.bool true) st else b ρ st := id rfl
@[simp] theorem ap_eNot {a : DE} : eNot a ρ st = (eB a ρ st).bind fun x st => .ok (.bool (!x)) st := id rfl
@[simp] theorem ap_bAnd {a b : DB} : bAnd a b ρ st = (a ρ st).bind fun x st => if x = true then b ρ st else .ok false st := id rfl
@[simp] theorem ap_bOr {a b : DB} : bOr a b ρ st = (a ρ st).bind fun x st => if x = true then .ok true st else b ρ st := id rfl
@[simp] theorem ap_bNot {a : DB} : bNot a ρ st = (a ρ st).bind fun x st => .ok (!x) st := id rfl
@[simp] theorem ap_eIf {c : DB} {a b : DE} : eIf c a b ρ st = (c ρ st).bind fun x st => if x = true then a ρ st else b ρ st := id rfl
@[simp] theorem ap_eCall {m : DF} {fs : DEs} : eCall m fs ρ st = (fs ρ st).bind fun ds st => m ds st := id rfl
@[simp] theorem ap_eMake {m : DF} {fs : DEs} : eMake m fs ρ st = (fs ρ st).bind fun ds st => match ds with
  | [t, g] => m [t, g] st
  | _ => .stuck := id rfl
@[simp] theorem ap_eMth {g : List PyData → PyData → Option PyData} {a b : DE} : eMth g a b ρ st = (a ρ st).bind fun c st => (ER.of (seqOf c) st).bind fun ds st => (b ρ st).bind fun x st => .of (g ds x) st := id rfl
@[simp] theorem ap_eSl {f : DE} {lo hi : DO} : eSl f lo hi ρ st = (f ρ st).bind fun d st => (lo ρ st).bind fun l st => (hi ρ st).bind fun h st => .of (cutD d l h) st := id rfl
@[simp] theorem ap_oNone : oNone ρ st = .ok none st := id rfl
@[simp] theorem ap_oSome {f : DE} : oSome f ρ st = (f ρ st).bind fun d st => .of ((intOf d).map some) st := id rfl
@[simp] theorem ap_eFr {f : DE} : eFr f ρ st = (f ρ st).bind fun d st => if calmD true d = true then .ok d st else .stuck := id rfl
@[simp] theorem ap_eNl {f : DE} : eNl f ρ st = (f ρ st).bind fun d st => if noL d = true then .ok d st else .stuck := id rfl
@[simp] theorem ap_iSeq {f : DE} : iSeq f ρ st = (f ρ st).bind fun d st => .of (seqOf d) st := id rfl
@[simp] theorem ap_iArgs {g : List PyData → Option (List PyData)} {fs : DEs} : iArgs g fs ρ st = (fs ρ st).bind fun ds st => .of (g ds) st := id rfl
@[simp] theorem ap_cYes : cYes ρ st = .ok true st := id rfl
@[simp] theorem ap_eIxV {i : Nat} {f : DE} : eIxV i f ρ st = if (rdL i ρ st).isSome = true then (f ρ st).bind fun k st1 => match rdL i ρ st1, intOf k with
  | some (ds, _), some z => .of (atI ds z) st1
  | _, _ => .stuck else .stuck := id rfl
@[simp] theorem ap_chain {g g' : PyData → PyData → Option PyData} {a b c : DE} : eChain g g' a b c ρ st = (a ρ st).bind fun x st => (b ρ st).bind fun y st => (ER.of ((g x y).bind asB) st).bind fun k st => if k = true then (c ρ st).bind fun z st => .of (g' y z) st else .ok (.bool false) st := by
  unfold eChain
  rfl
@[simp] theorem intOf_int (i : Int) : intOf (.int i) = some i := id rfl
@[simp] theorem lineL_nil : lineL [] = true := id rfl
theorem line_of {ds : List PyData} (h : ds.length ≤ sizeLine) : lineL ds = true := decide_eq_true h
@[simp] theorem lineL_few {ds : List PyData} : lineL ds = decide (ds.length ≤ sizeLine) := id rfl
@[simp] theorem sizeL : sizeLine = 16777216 := id rfl
/-! operators -/
@[simp] theorem sortedB_l (ds : List PyData) : sortedB [.list ds] = sortedD [.list ds] := id rfl
@[simp] theorem sortedB_t (ds : List PyData) : sortedB [.tuple ds] = sortedD [.list ds] := id rfl
@[simp] theorem sumB_l (ds : List PyData) : sumB [.list ds] = sumD [.list ds] := id rfl
@[simp] theorem sumB_t (ds : List PyData) : sumB [.tuple ds] = sumD [.list ds] := id rfl
@[simp] theorem allB_l (ds : List PyData) : allB [.list ds] = allD [.list ds] := id rfl
@[simp] theorem allB_t (ds : List PyData) : allB [.tuple ds] = allD [.list ds] := id rfl
@[simp] theorem anyB_l (ds : List PyData) : anyB [.list ds] = anyD [.list ds] := id rfl
@[simp] theorem anyB_t (ds : List PyData) : anyB [.tuple ds] = anyD [.list ds] := id rfl
@[simp] theorem minB_l (ds : List PyData) : minB [.list ds] = minS ds := id rfl
@[simp] theorem minB_t (ds : List PyData) : minB [.tuple ds] = minS ds := id rfl
@[simp] theorem maxB_l (ds : List PyData) : maxB [.list ds] = maxS ds := id rfl
@[simp] theorem maxB_t (ds : List PyData) : maxB [.tuple ds] = maxS ds := id rfl
@[simp] theorem ltB_i (i j : Int) : ltB (.int i) (.int j) = some (.bool (decide (i < j))) := id rfl
@[simp] theorem leB_i (i j : Int) : leB (.int i) (.int j) = some (.bool (decide (i ≤ j))) := id rfl
@[simp] theorem gtB_i (i j : Int) : gtB (.int i) (.int j) = some (.bool (decide (j < i))) := id rfl
@[simp] theorem geB_i (i j : Int) : geB (.int i) (.int j) = some (.bool (decide (j ≤ i))) := id rfl
@[simp] theorem addD_i (i j : Int) : addD (.int i) (.int j) = some (.int (i + j)) := id rfl
@[simp] theorem subD_i (i j : Int) : subD (.int i) (.int j) = some (.int (i - j)) := id rfl
@[simp] theorem ltD_i (i j : Int) : ltD (.int i) (.int j) = some (.bool (decide (i < j))) := id rfl
@[simp] theorem leD_i (i j : Int) : leD (.int i) (.int j) = some (.bool (decide (i ≤ j))) := id rfl
@[simp] theorem gtD_i (i j : Int) : gtD (.int i) (.int j) = some (.bool (decide (j < i))) := id rfl
@[simp] theorem geD_i (i j : Int) : geD (.int i) (.int j) = some (.bool (decide (j ≤ i))) := id rfl
@[simp] theorem negD_i (i : Int) : negD (.int i) = some (.int (-i)) := id rfl
theorem modD_i {i j : Int} (h : 0 < j) : modD (.int i) (.int j) = some (.int (i % j)) := if_pos h
theorem divD_i {i j : Int} (h : 0 < j) (h2 : j < 1073741824) : divD (.int i) (.int j) = some (.int (i / j)) := if_pos ⟨h, by omega⟩
theorem mulD_i {i j : Int} (h : bitsOk i j = true) : mulD (.int i) (.int j) = some (.int (i * j)) := if_pos h
@[simp] theorem eqD_enc (a b : α) : eqD (enc a) (enc b) = some (.bool (a == b)) := by
  have h1 := Enc.depth a
  have h2 := EncE.sh (α := α)
  have : okEq (enc a) (enc b) = true := by
    unfold okEq
    rw [Enc.plain, Enc.plain]
    simp only [Bool.and_self, Bool.true_and, decide_eq_true_eq]
    omega
  rw [eqD, if_pos this, EncE.eqv]
@[simp] theorem neD_enc (a b : α) : neD (enc a) (enc b) = some (.bool (!(a == b))) := by
  have h1 := Enc.depth a
  have h2 := EncE.sh (α := α)
  have : okEq (enc a) (enc b) = true := by
    unfold okEq
    rw [Enc.plain, Enc.plain]
    simp only [Bool.and_self, Bool.true_and, decide_eq_true_eq]
    omega
  rw [neD, if_pos this, EncE.eqv]
theorem eqD_t (h : Enc.dep α + 1 ≤ 64) (a b : List α) : eqD (.tuple (a.map enc)) (.tuple (b.map enc)) = some (.bool (a == b)) := by
  letI : EncE (List α) := encList h
  exact eqD_enc a b
theorem neD_t (h : Enc.dep α + 1 ≤ 64) (a b : List α) : neD (.tuple (a.map enc)) (.tuple (b.map enc)) = some (.bool (!(a == b))) := by
  letI : EncE (List α) := encList h
  exact neD_enc a b
@[simp] theorem isa_int_none : isaD "int" .none = some (.bool false) := id rfl
@[simp] theorem isa_int_bool {b : Bool} : isaD "int" (.bool b) = some (.bool true) := id rfl
@[simp] theorem isa_int_int {i : Int} : isaD "int" (.int i) = some (.bool true) := id rfl
@[simp] theorem isa_int_str {s : Str} : isaD "int" (.str s) = some (.bool false) := id rfl
@[simp] theorem isa_int_tup {xs : List PyData} : isaD "int" (.tuple xs) = some (.bool false) := id rfl
@[simp] theorem isa_int_lst {xs : List PyData} : isaD "int" (.list xs) = some (.bool false) := id rfl
@[simp] theorem isa_int_d0 : isaD "int" (.dict []) = some (.bool false) := id rfl
@[simp] theorem isa_int_lea {i : Int} {g : PyData} : isaD "int" (lea i g) = some (.bool false) := id rfl
@[simp] theorem isa_bool_none : isaD "bool" .none = some (.bool false) := id rfl
@[simp] theorem isa_bool_bool {b : Bool} : isaD "bool" (.bool b) = some (.bool true) := id rfl
@[simp] theorem isa_bool_int {i : Int} : isaD "bool" (.int i) = some (.bool false) := id rfl
@[simp] theorem isa_bool_str {s : Str} : isaD "bool" (.str s) = some (.bool false) := id rfl
@[simp] theorem isa_bool_tup {xs : List PyData} : isaD "bool" (.tuple xs) = some (.bool false) := id rfl
@[simp] theorem isa_bool_lst {xs : List PyData} : isaD "bool" (.list xs) = some (.bool false) := id rfl
@[simp] theorem isa_bool_d0 : isaD "bool" (.dict []) = some (.bool false) := id rfl
@[simp] theorem isa_bool_lea {i : Int} {g : PyData} : isaD "bool" (lea i g) = some (.bool false) := id rfl
@[simp] theorem isa_tuple_none : isaD "tuple" .none = some (.bool false) := id rfl
@[simp] theorem isa_tuple_bool {b : Bool} : isaD "tuple" (.bool b) = some (.bool false) := id rfl
@[simp] theorem isa_tuple_int {i : Int} : isaD "tuple" (.int i) = some (.bool false) := id rfl
@[simp] theorem isa_tuple_str {s : Str} : isaD "tuple" (.str s) = some (.bool false) := id rfl
@[simp] theorem isa_tuple_tup {xs : List PyData} : isaD "tuple" (.tuple xs) = some (.bool true) := id rfl
@[simp] theorem isa_tuple_lst {xs : List PyData} : isaD "tuple" (.list xs) = some (.bool false) := id rfl
@[simp] theorem isa_tuple_d0 : isaD "tuple" (.dict []) = some (.bool false) := id rfl
@[simp] theorem isa_tuple_lea {i : Int} {g : PyData} : isaD "tuple" (lea i g) = some (.bool false) := id rfl
@[simp] theorem isa_str_none : isaD "str" .none = some (.bool false) := id rfl
@[simp] theorem isa_str_bool {b : Bool} : isaD "str" (.bool b) = some (.bool false) := id rfl
@[simp] theorem isa_str_int {i : Int} : isaD "str" (.int i) = some (.bool false) := id rfl
@[simp] theorem isa_str_str {s : Str} : isaD "str" (.str s) = some (.bool true) := id rfl
@[simp] theorem isa_str_tup {xs : List PyData} : isaD "str" (.tuple xs) = some (.bool false) := id rfl
@[simp] theorem isa_str_lst {xs : List PyData} : isaD "str" (.list xs) = some (.bool false) := id rfl
@[simp] theorem isa_str_d0 : isaD "str" (.dict []) = some (.bool false) := id rfl
@[simp] theorem isa_str_lea {i : Int} {g : PyData} : isaD "str" (lea i g) = some (.bool false) := id rfl
@[simp] theorem isa_list_none : isaD "list" .none = some (.bool false) := id rfl
@[simp] theorem isa_list_bool {b : Bool} : isaD "list" (.bool b) = some (.bool false) := id rfl
@[simp] theorem isa_list_int {i : Int} : isaD "list" (.int i) = some (.bool false) := id rfl
@[simp] theorem isa_list_str {s : Str} : isaD "list" (.str s) = some (.bool false) := id rfl
@[simp] theorem isa_list_tup {xs : List PyData} : isaD "list" (.tuple xs) = some (.bool false) := id rfl
@[simp] theorem isa_list_lst {xs : List PyData} : isaD "list" (.list xs) = some (.bool true) := id rfl
@[simp] theorem isa_list_d0 : isaD "list" (.dict []) = some (.bool false) := id rfl
@[simp] theorem isa_list_lea {i : Int} {g : PyData} : isaD "list" (lea i g) = some (.bool false) := id rfl
@[simp] theorem isa_dict_none : isaD "dict" .none = some (.bool false) := id rfl
@[simp] theorem isa_dict_bool {b : Bool} : isaD "dict" (.bool b) = some (.bool false) := id rfl
@[simp] theorem isa_dict_int {i : Int} : isaD "dict" (.int i) = some (.bool false) := id rfl
@[simp] theorem isa_dict_str {s : Str} : isaD "dict" (.str s) = some (.bool false) := id rfl
@[simp] theorem isa_dict_tup {xs : List PyData} : isaD "dict" (.tuple xs) = some (.bool false) := id rfl
@[simp] theorem isa_dict_lst {xs : List PyData} : isaD "dict" (.list xs) = some (.bool false) := id rfl
@[simp] theorem isa_dict_d0 : isaD "dict" (.dict []) = some (.bool true) := id rfl
@[simp] theorem isa_dict_lea {i : Int} {g : PyData} : isaD "dict" (lea i g) = some (.bool false) := id rfl
@[simp] theorem isa_League_none : isaD "League" .none = some (.bool false) := id rfl
@[simp] theorem isa_League_bool {b : Bool} : isaD "League" (.bool b) = some (.bool false) := id rfl
@[simp] theorem isa_League_int {i : Int} : isaD "League" (.int i) = some (.bool false) := id rfl
@[simp] theorem isa_League_str {s : Str} : isaD "League" (.str s) = some (.bool false) := id rfl
@[simp] theorem isa_League_tup {xs : List PyData} : isaD "League" (.tuple xs) = some (.bool false) := id rfl
@[simp] theorem isa_League_lst {xs : List PyData} : isaD "League" (.list xs) = some (.bool false) := id rfl
@[simp] theorem isa_League_d0 : isaD "League" (.dict []) = some (.bool false) := id rfl
@[simp] theorem isa_League_lea {i : Int} {g : PyData} : isaD "League" (lea i g) = some (.bool true) := id rfl
abbrev tE (l : List α) : PyData := .tuple (l.map enc)
abbrev lE (l : List α) : PyData := .list (l.map enc)
@[simp] theorem tE_eq (l : List α) : tE l = .tuple (l.map enc) := id rfl
@[simp] theorem lE_eq (l : List α) : lE l = .list (l.map enc) := id rfl
@[simp] theorem eqD_i (i j : Int) : eqD (.int i) (.int j) = some (.bool (i == j)) := eqD_enc i j
@[simp] theorem neD_i (i j : Int) : neD (.int i) (.int j) = some (.bool (!(i == j))) := neD_enc i j
theorem beq_cast (a b : Nat) : ((a : Int) == (b : Int)) = (a == b) := EncE.eqv a b
@[simp] theorem isD_none (d : PyData) : isD d .none = some (.bool (isNo d)) := id rfl
@[simp] theorem isnD_none (d : PyData) : isnD d .none = some (.bool (!isNo d)) := id rfl
@[simp] theorem isNo_res (r : Option Bool) : isNo (enc r) = r.isNone := by cases r <;> rfl
@[simp] theorem isNo_int (r : Int) : isNo (.int r) = false := id rfl
@[simp] theorem isNo_none : isNo .none = true := id rfl
theorem has_enc (x : α) (ys : List α) : hasD (enc x) (ys.map enc) = ys.contains x := by
  unfold hasD
  induction ys with
  | nil => rfl
  | cons y ys ih =>
    rw [List.map_cons, List.any_cons, ih, EncE.eqv, List.contains_cons]
    congr 1
    rw [Bool.eq_iff_iff, beq_iff_eq, beq_iff_eq]
    exact eq_comm
theorem okIn_enc (x : α) (ys : List α) : okIn (enc x) (ys.map enc) = true := by
  have h1 := Enc.depth x
  have h2 := EncE.sh (α := α)
  unfold okIn
  rw [Enc.plain, enc_plainAll]
  simp only [Bool.and_self, Bool.true_and, decide_eq_true_eq]
  omega
theorem isInL (x : α) (ys : List α) : isInD (enc x) (.list (ys.map enc)) = some (.bool (ys.contains x)) := by
  unfold isInD inD
  simp only [okIn_enc, has_enc, if_true, Option.map_some]
theorem isInT (x : α) (ys : List α) : isInD (enc x) (.tuple (ys.map enc)) = some (.bool (ys.contains x)) := by
  unfold isInD inD
  simp only [okIn_enc, has_enc, if_true, Option.map_some]
theorem notInL (x : α) (ys : List α) : notInD (enc x) (.list (ys.map enc)) = some (.bool (!ys.contains x)) := by
  unfold notInD inD
  simp only [okIn_enc, has_enc, if_true, Option.map_some]
theorem notInT (x : α) (ys : List α) : notInD (enc x) (.tuple (ys.map enc)) = some (.bool (!ys.contains x)) := by
  unfold notInD inD
  simp only [okIn_enc, has_enc, if_true, Option.map_some]
theorem okFind_enc (x : α) (ys : List α) : okFind (ys.map enc) (enc x) = true := by
  have h1 := Enc.depth x
  have h2 := EncE.sh (α := α)
  unfold okFind
  rw [Enc.plain, enc_plainAll]
  simp only [Bool.and_self, Bool.true_and, decide_eq_true_eq]
  omega
theorem countL_enc (x : α) (ys : List α) : countL (ys.map enc) (enc x) = some (.int (ys.count x : Nat)) := by
  unfold countL
  rw [if_pos (okFind_enc x ys), List.countP_map]
  congr 3
  unfold List.count
  congr 1
  funext y
  exact EncE.eqv y x
theorem indexL_enc {x : α} {ys : List α} (h : x ∈ ys) : indexL (ys.map enc) (enc x) = some (.int (ys.idxOf x : Nat)) := by
  unfold indexL
  rw [if_pos (okFind_enc x ys)]
  unfold SeqAt.dataPlace
  rw [List.findIdx?_map]
  have e : (fun y => PyData.eqv y (enc x)) ∘ enc = fun y : α => y == x := by
    funext y
    exact EncE.eqv y x
  rw [e]
  have : List.findIdx? (fun y => y == x) ys = some (ys.idxOf x) := by
    unfold List.idxOf
    rw [List.findIdx?_eq_some_iff_findIdx_eq]
    exact ⟨List.findIdx_lt_length_of_exists ⟨x, h, by simp⟩, rfl⟩
  rw [this]
  rfl
@[simp] theorem seqOf_l (xs : List PyData) : seqOf (.list xs) = some xs := id rfl
@[simp] theorem seqOf_t (xs : List PyData) : seqOf (.tuple xs) = some xs := id rfl
@[simp] theorem lenD_l (xs : List PyData) : lenD [.list xs] = some (.int xs.length) := id rfl
@[simp] theorem lenD_t (xs : List PyData) : lenD [.tuple xs] = some (.int xs.length) := id rfl
@[simp] theorem listD_l (xs : List PyData) : listD [.list xs] = some (.list xs) := id rfl
@[simp] theorem listD_t (xs : List PyData) : listD [.tuple xs] = some (.list xs) := id rfl
@[simp] theorem tupleD_l (xs : List PyData) : tupleD [.list xs] = some (.tuple xs) := id rfl
@[simp] theorem tupleD_t (xs : List PyData) : tupleD [.tuple xs] = some (.tuple xs) := id rfl
@[simp] theorem intD_i (i : Int) : intD [.int i] = some (.int i) := id rfl
@[simp] theorem absD_i (i : Int) : absD [.int i] = some (.int i.natAbs) := by
  show some (PyData.int _) = _
  congr 2
  omega
@[simp] theorem max2D_i (i j : Int) : max2D [.int i, .int j] = some (.int (max i j)) := by
  show some (PyData.int _) = _
  congr 2
  by_cases h : j > i
  · rw [if_pos h]; omega
  · rw [if_neg h]; omega
@[simp] theorem min2D_i (i j : Int) : min2D [.int i, .int j] = some (.int (min i j)) := by
  show some (PyData.int _) = _
  congr 2
  by_cases h : j < i
  · rw [if_pos h]; omega
  · rw [if_neg h]; omega
theorem asInts_i (l : List Int) : asInts (l.map .int) = some l := by
  induction l with
  | nil => rfl
  | cons a l ih => rw [List.map_cons, asInts, ih]; rfl
theorem asBools_b (l : List Bool) : asBools (l.map .bool) = some l := by
  induction l with
  | nil => rfl
  | cons a l ih => rw [List.map_cons, asBools, ih]; rfl
theorem sumD_i (l : List Int) : sumD [.list (l.map .int)] = some (.int l.sum) := by
  show (asInts _).map _ = _
  rw [asInts_i]; rfl
theorem allD_b (l : List Bool) : allD [.list (l.map .bool)] = some (.bool (l.all id)) := by
  show (asBools _).map _ = _
  rw [asBools_b]; rfl
theorem anyD_b (l : List Bool) : anyD [.list (l.map .bool)] = some (.bool (l.any id)) := by
  show (asBools _).map _ = _
  rw [asBools_b]; rfl
theorem allD_m {γ : Type} (l : List γ) (f : γ → Bool) : allD [.list (l.map fun x => .bool (f x))] = some (.bool (l.all f)) := by
  have := allD_b (l.map f)
  rw [List.map_map] at this
  refine this.trans ?_
  rw [List.all_map]
  rfl
theorem anyD_m {γ : Type} (l : List γ) (f : γ → Bool) : anyD [.list (l.map fun x => .bool (f x))] = some (.bool (l.any f)) := by
  have := anyD_b (l.map f)
  rw [List.map_map] at this
  refine this.trans ?_
  rw [List.any_map]
  rfl
theorem sumD_m {γ : Type} (l : List γ) (f : γ → Int) : sumD [.list (l.map fun x => .int (f x))] = some (.int (l.map f).sum) := by
  have := sumD_i (l.map f)
  rw [List.map_map] at this
  exact this
@[simp] theorem fld_t (t : Int) (g : PyData) : fldD "teams" (lea t g) = some (.int t) := id rfl
@[simp] theorem fld_g (t : Int) (g : PyData) : fldD "games" (lea t g) = some g := id rfl
theorem atI_n {γ : Type} {xs : List γ} {i : Nat} (h : i < xs.length) : atI xs (i : Int) = xs[i]? := by
  have h2 : (i : Int) < (xs.length : Int) := by omega
  simp [atI, ixN, h2]
theorem ixD_t {xs : List PyData} {i : Nat} {x : PyData} (h : xs[i]? = some x) : ixD (.tuple xs) (.int (i : Int)) = some x := by
  have : i < xs.length := (List.getElem?_eq_some_iff.mp h).1
  show atI xs _ = _
  rw [atI_n this, h]
theorem ixD_l {xs : List PyData} {i : Nat} {x : PyData} (h : xs[i]? = some x) : ixD (.list xs) (.int (i : Int)) = some x := by
  have : i < xs.length := (List.getElem?_eq_some_iff.mp h).1
  show atI xs _ = _
  rw [atI_n this, h]
@[simp] theorem ixD_p0 {x y : PyData} : ixD (.tuple [x, y]) (.int 0) = some x := id rfl
@[simp] theorem ixD_p1 {x y : PyData} : ixD (.tuple [x, y]) (.int 1) = some y := id rfl
theorem tupR1_eq (b : Int) : tupR1 [.int b] = if rgOk 0 b = true then some (.tuple (rngL 0 b)) else none := by
  unfold tupR1
  rfl
theorem listR1_eq (b : Int) : listR1 [.int b] = if rgOk 0 b = true then some (.list (rngL 0 b)) else none := by
  unfold listR1
  rfl
theorem rngL_n (n : Nat) : rngL 0 (n : Int) = (List.range n).map enc := by
  unfold rngL
  have : ((n : Int) - 0).toNat = n := by omega
  rw [this]
  apply List.map_congr_left
  intro i _
  show PyData.int (0 + (i : Int)) = PyData.int i
  rw [Int.zero_add]
theorem rgOk_n {n : Nat} (h : n ≤ 1000) : rgOk 0 (n : Int) = true := by
  unfold rgOk
  simp only [decide_eq_true_eq]
  omega
@[simp] theorem tupR1_n (n : Nat) (h : n ≤ 1000) : tupR1 [.int (n : Int)] = some (enc (List.range n)) := by
  rw [tupR1_eq, rgOk_n h, rngL_n]
  rfl
@[simp] theorem listR1_n (n : Nat) (h : n ≤ 1000) : listR1 [.int (n : Int)] = some (.list ((List.range n).map enc)) := by
  rw [listR1_eq, rgOk_n h, rngL_n]
  rfl
@[simp] theorem rng1_n (n : Nat) (h : n ≤ 1000) : rng1Of [.int (n : Int)] = some ((List.range n).map enc) := by
  unfold rng1Of
  simp only []
  rw [if_pos (by omega)]
  congr 1
  have : (n : Int).toNat = n := by omega
  rw [this]
  apply List.map_congr_left
  intro i _
  show PyData.int (0 + (i : Int)) = PyData.int i
  rw [Int.zero_add]
theorem zip_map2 {γ δ : Type} (f : α → γ) (g : β → δ) (xs : List α) (ys : List β) : (xs.map f).zip (ys.map g) = (xs.zip ys).map fun p => (f p.1, g p.2) := by
  induction xs generalizing ys with
  | nil => rfl
  | cons x xs ih => cases ys with
    | nil => rfl
    | cons y ys => simp [ih]
theorem zip_tt (xs : List α) (ys : List β) : zipOf [.tuple (xs.map enc), .tuple (ys.map enc)] = some ((xs.zip ys).map fun p => .tuple [enc p.1, enc p.2]) := by
  show some (List.map _ ((xs.map enc).zip (ys.map enc))) = some _
  rw [zip_map2, List.map_map]
  rfl
theorem zip_lt (xs : List α) (ys : List β) : zipOf [.list (xs.map enc), .tuple (ys.map enc)] = some ((xs.zip ys).map fun p => .tuple [enc p.1, enc p.2]) := zip_tt xs ys
theorem zip_tl (xs : List α) (ys : List β) : zipOf [.tuple (xs.map enc), .list (ys.map enc)] = some ((xs.zip ys).map fun p => .tuple [enc p.1, enc p.2]) := zip_tt xs ys
theorem zip_ll (xs : List α) (ys : List β) : zipOf [.list (xs.map enc), .list (ys.map enc)] = some ((xs.zip ys).map fun p => .tuple [enc p.1, enc p.2]) := zip_tt xs ys
theorem enu_t (xs : List α) : enuOf [.tuple (xs.map enc)] = some (xs.zipIdx.map fun p => .tuple [.int (p.2 : Nat), enc p.1]) := by
  show some (enumD _) = some _
  unfold enumD
  rw [List.zipIdx_map, List.map_map]
  rfl
theorem enu_l (xs : List α) : enuOf [.list (xs.map enc)] = some (xs.zipIdx.map fun p => .tuple [.int (p.2 : Nat), enc p.1]) := enu_t xs
theorem cut_drop (xs : List PyData) (n : Nat) : cutL xs (some (n : Int)) none = xs.drop n := by
  unfold cutL
  rw [HT.sIx_nat]
  show List.take (xs.length - min n xs.length) _ = _
  by_cases h : n ≤ xs.length
  · rw [Nat.min_eq_left h, ← List.length_drop, List.take_length]
  · rw [List.drop_eq_nil_of_le (by omega), List.drop_eq_nil_of_le (by omega)]
    simp
theorem cut_take (xs : List PyData) (n : Nat) : cutL xs none (some (n : Int)) = xs.take n := by
  unfold cutL
  rw [HT.sIx_nat]
  show List.take (min n xs.length - 0) (List.drop 0 xs) = _
  rw [List.drop_zero, Nat.sub_zero]
  by_cases h : n ≤ xs.length
  · rw [Nat.min_eq_left h]
  · rw [List.take_of_length_le (by omega), List.take_of_length_le (by omega)]
@[simp] theorem cut_drop_t (xs : List PyData) (n : Nat) : cutD (.tuple xs) (some (n : Int)) none = some (.tuple (xs.drop n)) := by
  show some (PyData.tuple (cutL _ _ _)) = _
  rw [cut_drop]
@[simp] theorem cut_take_t (xs : List PyData) (n : Nat) : cutD (.tuple xs) none (some (n : Int)) = some (.tuple (xs.take n)) := by
  show some (PyData.tuple (cutL _ _ _)) = _
  rw [cut_take]
theorem cut_tail_t (xs : List PyData) : cutD (.tuple xs) (some 1) none = some (.tuple (xs.drop 1)) := cut_drop_t xs 1
@[simp] theorem cut_tail_m {γ : Type} (f : γ → PyData) (xs : List γ) : cutD (.tuple (xs.map f)) (some 1) none = some (.tuple (xs.tail.map f)) := by
  rw [cut_tail_t, ← List.map_drop, List.drop_one]
@[simp] theorem cut_one_t (xs : List PyData) : cutD (.tuple xs) none (some 1) = some (.tuple (xs.take 1)) := cut_take_t xs 1
/-! statements -/
@[simp] theorem ap_sNext : sNext ρ st = .nx ρ st := id rfl
@[simp] theorem ap_eS {d : PyData} {k : PyData → Store → SR} : eS (.ok d st) k = k d st := id rfl
@[simp] theorem ap_eSx {x : Exn} {k : PyData → Store → SR} : eS (.exn x st) k = .exn x st := id rfl
@[simp] theorem ap_sRet {fr : Bool} {f : DE} : sRet fr f ρ st = eS (f ρ st) fun d st => .ret d fr st := id rfl
@[simp] theorem ap_sDrop {f : DE} : sDrop f ρ st = eS (f ρ st) fun _ st => .nx ρ st := id rfl
@[simp] theorem ap_sSet {i : Nat} {M : List Nat} {fr : Bool} {f : DE} : sSet i M fr f ρ st = eS (f ρ st) fun d st => if i < ρ.length then .nx (asgE M fr i d ρ) st else .stuck := id rfl
@[simp] theorem ap_sIf {c : DB} {g k : DS} : sIf c g k ρ st = match c ρ st with
  | .ok b st => if b = true then g ρ st else k ρ st
  | .exn x st => .exn x st
  | .stuck => .stuck := id rfl
@[simp] theorem ap_sSeq {g k : DS} : sSeq g k ρ st = match g ρ st with
  | .nx ρ st => k ρ st
  | r => r := id rfl
@[simp] theorem ap_sRaise {c : Nat} : sRaise c ρ st = .exn ⟨c, []⟩ st := id rfl
@[simp] theorem ap_sFor {M : List Nat} {i : DI} {g : DG} {b : DS} : sFor M i g b ρ st = match i ρ st with
  | .ok ds st => forGo g b ds (dropE M ρ) st
  | .exn x st => .exn x st
  | .stuck => .stuck := id rfl
@[simp] theorem finD_ret {fr f : Bool} {d : PyData} : finD fr (.ret d f st) = if (fr && !f && mutD d) = true then .stuck else .ok d st := id rfl
@[simp] theorem finD_nx {fr : Bool} : finD fr (.nx ρ st) = .ok .none st := id rfl
@[simp] theorem finD_exn {fr : Bool} {x : Exn} : finD fr (.exn x st) = .exn x st := id rfl
@[simp] theorem ap_defD {N n : Nat} {fr : Bool} {bm : DS} {ds : List PyData} : defD N n fr bm ds st = if ds.length = n then finD fr (bm (ds.map (fun d => some (d, false)) ++ List.replicate (N - n) none) st) else .stuck := id rfl
def frzG (own : List Nat) : Nat → EnvD → EnvD
  | _, [] => []
  | k, x :: ρ => (if own.contains k = true then none else x.map fun p => (p.1, false)) :: frzG own (k + 1) ρ
def dropG (M : List Nat) : Nat → EnvD → EnvD
  | _, [] => []
  | k, x :: ρ => (if M.contains k = true then x.map fun p => (p.1, false) else x) :: dropG M (k + 1) ρ
theorem frzG_eq (own : List Nat) : ∀ (k : Nat) (ρ : EnvD), frzG own k ρ = ρ.mapIdx fun i s => if own.contains (k + i) = true then none else s.map fun p => (p.1, false)
  | _, [] => rfl
  | k, x :: ρ => by
    rw [frzG, frzG_eq own (k + 1) ρ, List.mapIdx_cons]
    simp only [Nat.add_zero, Nat.add_assoc, Nat.add_comm 1]
theorem dropG_eq (own : List Nat) : ∀ (k : Nat) (ρ : EnvD), dropG own k ρ = ρ.mapIdx fun i s => if own.contains (k + i) = true then s.map fun p => (p.1, false) else s
  | _, [] => rfl
  | k, x :: ρ => by
    rw [dropG, dropG_eq own (k + 1) ρ, List.mapIdx_cons]
    simp only [Nat.add_zero, Nat.add_assoc, Nat.add_comm 1]
@[simp] theorem frzE_G (own : List Nat) (ρ : EnvD) : frzE own ρ = frzG own 0 ρ := by
  rw [frzG_eq]
  simp only [Nat.zero_add]
  rfl
@[simp] theorem dropE_G (own : List Nat) (ρ : EnvD) : dropE own ρ = dropG own 0 ρ := by
  rw [dropG_eq]
  simp only [Nat.zero_add]
  rfl
@[simp] theorem frzG_nil {own : List Nat} {k : Nat} : frzG own k [] = [] := id rfl
@[simp] theorem frzG_cons {own : List Nat} {k : Nat} {x : Slot} {ρ : EnvD} : frzG own k (x :: ρ) = (if own.contains k = true then none else x.map fun p => (p.1, false)) :: frzG own (k + 1) ρ := id rfl
@[simp] theorem dropG_nil {own : List Nat} {k : Nat} : dropG own k [] = [] := id rfl
@[simp] theorem dropG_cons {own : List Nat} {k : Nat} {x : Slot} {ρ : EnvD} : dropG own k (x :: ρ) = (if own.contains k = true then x.map fun p => (p.1, false) else x) :: dropG own (k + 1) ρ := id rfl
@[simp] theorem range_has (n k : Nat) : (List.range n).contains k = decide (k < n) := by
  rw [Bool.eq_iff_iff]
  simp
@[simp] theorem ap_asgE {M : List Nat} {fr : Bool} {i : Nat} {d : PyData} : asgE M fr i d ρ = (if (if fr && mutD d then !inner0 d else !noL d) = true then dropE M ρ else ρ).set i (some (d, fr && mutD d)) := id rfl
@[simp] theorem ap_calmD {fr : Bool} {d : PyData} : calmD fr d = if fr && mutD d then inner0 d else noL d := id rfl
@[simp] theorem ap_dropFor {M : List Nat} {fr : Bool} {d : PyData} : dropFor M fr d ρ = if calmD fr d = true then ρ else dropE M ρ := id rfl
@[simp] theorem rdL_s {n : Nat} {x : Slot} : rdL (n + 1) (x :: ρ) st = rdL n ρ st := id rfl
@[simp] theorem rdL_own {ds : List PyData} : rdL 0 (some (.list ds, true) :: ρ) st = some (ds, none) := id rfl
@[simp] theorem rdL_cell {j : Nat} : rdL 0 (some (loc j, false) :: ρ) st = st[j]?.map fun ds => (ds, some j) := by
  show (st[(j : Int).toNat]?.bind fun ds => if 0 ≤ (j : Int) then some (ds, some (j : Int).toNat) else none) = _
  have e : (j : Int).toNat = j := by omega
  rw [e]
  cases st[j]? <;> simp
@[simp] theorem ap_put0 {i : Nat} {ds : List PyData} : putL i none ds ρ st = .nx (ρ.set i (some (.list ds, true))) st := id rfl
@[simp] theorem ap_put1 {i j : Nat} {ds : List PyData} : putL i (some j) ds ρ st = .nx ρ (st.set j ds) := id rfl
@[simp] theorem ap_sApp {i : Nat} {M : List Nat} {fr : Bool} {f : DE} : sApp i M fr f ρ st = if (rdL i ρ st).isSome = true then eS (f ρ st) fun d st => match rdL i (dropFor M fr d ρ) st with
  | some (ds, w) => if ds.length < sizeLine ∧ (w = none ∨ noL d = true) then putL i w (ds ++ [d]) (dropFor M fr d ρ) st else .stuck
  | none => .stuck else .stuck := id rfl
@[simp] theorem ap_sSub {i : Nat} {M : List Nat} {fr : Bool} {fi f : DE} : sSub i M fr fi f ρ st = eS (f ρ st) fun d st => if (rdL i ρ st).isSome = true then eS (fi ρ st) fun k st => match rdL i (dropFor M fr d ρ) st, intOf k with
  | some (ds, w), some k => (match ixN ds.length k with
    | some j => if w = none ∨ noL d = true then putL i w (ds.set j d) (dropFor M fr d ρ) st else .stuck
    | none => .stuck)
  | _, _ => .stuck else .stuck := id rfl
@[simp] theorem ap_sPar {i : Nat} {M1 : List Nat} {fr1 : Bool} {f1 : DE} {j : Nat} {M2 : List Nat} {fr2 : Bool} {f2 : DE} : sPar i M1 fr1 f1 j M2 fr2 f2 ρ st = eS (f1 ρ st) fun d1 st => eS (f2 ρ st) fun d2 st =>
  if i < ρ.length ∧ j < ρ.length then .nx (asgE (i :: M2) fr2 j d2 (asgE M1 fr1 i d1 ρ)) st else .stuck := id rfl
@[simp] theorem ap_sPar3 {i : Nat} {M1 : List Nat} {fr1 : Bool} {f1 : DE} {j : Nat} {M2 : List Nat} {fr2 : Bool} {f2 : DE} {l : Nat} {M3 : List Nat} {fr3 : Bool} {f3 : DE} : sPar3 i M1 fr1 f1 j M2 fr2 f2 l M3 fr3 f3 ρ st = eS (f1 ρ st) fun d1 st => eS (f2 ρ st) fun d2 st => eS (f3 ρ st) fun d3 st =>
  if i < ρ.length ∧ j < ρ.length ∧ l < ρ.length then .nx (asgE (i :: j :: M3) fr3 l d3 (asgE (i :: M2) fr2 j d2 (asgE M1 fr1 i d1 ρ))) st else .stuck := id rfl
@[simp] theorem ap_sUnp {M : List Nat} {f : DE} {g : DG} : sUnp M f g ρ st = eS (f ρ st) fun d st => match g d (if noL d = true then ρ else dropE M ρ) with
  | some ρ' => .nx ρ' st
  | none => .stuck := id rfl
@[simp] theorem ap_sRetV0 {d : PyData} {b : Bool} : sRetV 0 (some (d, b) :: ρ) st = .ret d b st := id rfl
@[simp] theorem ap_sRetVs {n : Nat} {x : Slot} : sRetV (n + 1) (x :: ρ) st = sRetV n ρ st := id rfl
@[simp] theorem ap_sRetN : sRetN ρ st = .ret .none false st := id rfl
@[simp] theorem ap_gN {i : Nat} {d : PyData} : gN i d ρ = if i < ρ.length then some (ρ.set i (some (d, false))) else none := id rfl
@[simp] theorem ap_gTp {gs : DGs} {ds : List PyData} : gTp gs (.tuple ds) ρ = gs ds ρ := id rfl
@[simp] theorem ap_gNl : gNl [] ρ = some ρ := id rfl
@[simp] theorem ap_gCn {g : DG} {gs : DGs} {d : PyData} {ds : List PyData} : gCn g gs (d :: ds) ρ = (g d ρ).bind fun ρ => gs ds ρ := id rfl
theorem mulD_rep (d : PyData) {n : Nat} (h : n ≤ 1000) : mulD (.list [d]) (.int (n : Int)) = some (.list (List.replicate n d)) := by
  unfold mulD
  simp only []
  have e : (n : Int).toNat = n := by omega
  rw [if_pos (by rw [e, sizeL]; simp; omega), e]
  congr 2
  induction n with
  | zero => rfl
  | succ n ih => rw [List.replicate_succ, List.flatten_cons, ih (by omega) (by omega), List.replicate_succ]; rfl
theorem ixN_n {m i : Nat} (h : i < m) : ixN m (i : Int) = some i := by
  have : (i : Int) < (m : Int) := by omega
  simp [ixN, this]
theorem eIsE_s {a n : Nat} {b : Bool} {x : Slot} : eIsE a (n + 1) b (x :: ρ) st = eIsE a n b ρ st := id rfl
theorem eIsE_0 {a : Nat} {b : Bool} : eIsE a 0 b (some (rawv a, false) :: ρ) st = .ok (.bool b) st := by
  simp [eIsE]
/-! a comprehension over typed values: condition p, element f -/
theorem lc_t {γ : Type} {i : DI} {own : List Nat} {g : DG} {c : DB} {e : DE} (xs : List γ) (φ : γ → PyData) (p : γ → Bool) (f : γ → PyData) (hi : i ρ st = .ok (xs.map φ) st)
    (h : ∀ x ∈ xs, ∃ ρ1, g (φ x) (frzG own 0 ρ) = some ρ1 ∧ c ρ1 st = .ok (p x) st ∧ (p x = true → e ρ1 st = .ok (f x) st)) (hl : xs.length ≤ sizeLine) :
    eLc i own g (bdLast c e) ρ st = .ok (.list ((xs.filter p).map f)) st := by
  simp only [← frzE_G] at h
  have go : ∀ (xs : List γ) (rs : List PyData), (∀ x ∈ xs, ∃ ρ1, g (φ x) (frzE own ρ) = some ρ1 ∧ c ρ1 st = .ok (p x) st ∧ (p x = true → e ρ1 st = .ok (f x) st)) → rs.length + xs.length ≤ sizeLine →
      lcGo g (frzE own ρ) (bdLast c e) (xs.map φ) st rs = .ok (rs ++ (xs.filter p).map f) st := by
    intro xs
    induction xs with
    | nil => intro rs _ _; simp [lcGo]
    | cons x xs ih =>
      intro rs h hl
      obtain ⟨ρ1, h1, h2, h3⟩ := h x List.mem_cons_self
      rw [List.map_cons, lcGo, h1, ER.of_some, ER.bind_ok]
      rw [List.length_cons] at hl
      by_cases hp : p x = true
      · rw [hp] at h2
        rw [bd_yes h2 (h3 hp) (by omega), ER.bind_ok, ih _ (fun y hy => h y (List.mem_cons_of_mem _ hy)) (by rw [List.length_append, List.length_singleton]; omega), List.filter_cons_of_pos hp, List.map_cons, List.append_assoc, List.singleton_append]
      · rw [Bool.not_eq_true] at hp
        rw [hp] at h2
        rw [bd_no h2, ER.bind_ok, ih _ (fun y hy => h y (List.mem_cons_of_mem _ hy)) (by omega), List.filter_cons_of_neg (by rw [hp]; exact Bool.false_ne_true)]
  unfold eLc
  rw [hi]
  simp only [ER.bind_ok]
  rw [go xs [] h (by simpa using hl)]
  simp [noX]
theorem lc_a {γ : Type} {i : DI} {own : List Nat} {g : DG} {e : DE} (xs : List γ) (φ : γ → PyData) (f : γ → PyData) (hi : i ρ st = .ok (xs.map φ) st)
    (h : ∀ x ∈ xs, ∃ ρ1, g (φ x) (frzG own 0 ρ) = some ρ1 ∧ e ρ1 st = .ok (f x) st) (hl : xs.length ≤ sizeLine) :
    eLc i own g (bdLast cYes e) ρ st = .ok (.list (xs.map f)) st := by
  have := lc_t (c := cYes) (e := e) xs φ (fun _ => true) f hi (fun x hx => by
    obtain ⟨ρ1, h1, h2⟩ := h x hx
    exact ⟨ρ1, h1, rfl, fun _ => h2⟩) hl
  rw [this, List.filter_eq_self.mpr fun _ _ => rfl]
/-- a loop over typed values by an invariant; R: what is wanted of the end -/
theorem for_t {γ : Type} {g : DG} {b : DS} {R : SR → Prop} (φ : γ → PyData) (I : List γ → EnvD → Store → Prop) (xs : List γ) {ρ : EnvD} {st : Store} (h0 : I [] ρ st)
    (hs : ∀ done x rest ρ st, xs = done ++ x :: rest → I done ρ st → ∃ ρ1, g (φ x) ρ = some ρ1 ∧ match b ρ1 st with
      | .nx ρ2 st2 => I (done ++ [x]) ρ2 st2
      | .ct ρ2 st2 => I (done ++ [x]) ρ2 st2
      | .brk ρ2 st2 => R (.nx ρ2 st2)
      | r => R r)
    (he : ∀ ρ st, I xs ρ st → R (.nx ρ st)) : R (forGo g b (xs.map φ) ρ st) := by
  have go : ∀ (rest done : List γ) (ρ : EnvD) (st : Store), xs = done ++ rest → I done ρ st → R (forGo g b (rest.map φ) ρ st) := by
    intro rest
    induction rest with
    | nil =>
      intro done ρ st e h
      rw [List.append_nil] at e
      subst e
      exact he _ _ h
    | cons x rest ih =>
      intro done ρ st e h
      obtain ⟨ρ1, h1, h2⟩ := hs done x rest ρ st e h
      rw [List.map_cons, forGo, h1]
      show R (match b ρ1 st with
      | SR.nx ρ st => forGo g b (List.map φ rest) ρ st
      | SR.ct ρ st => forGo g b (List.map φ rest) ρ st
      | SR.brk ρ st => SR.nx ρ st
      | r => r)
      have e' : xs = (done ++ [x]) ++ rest := by rw [e]; simp
      cases hb : b ρ1 st with
      | nx ρ2 st2 => rw [hb] at h2;  exact ih _ _ _ e' h2
      | ct ρ2 st2 => rw [hb] at h2;  exact ih _ _ _ e' h2
      | brk ρ2 st2 => rw [hb] at h2;  exact h2
      | ret d f st2 => rw [hb] at h2; exact h2
      | exn x st2 => rw [hb] at h2; exact h2
      | stuck => rw [hb] at h2; exact h2
  exact go xs [] ρ st rfl h0
end
end Ev
end

section
set_option maxRecDepth 100000
set_option maxHeartbeats 400000
namespace Ev
open PySem PySem.Spec PyProof.Rows L2
open Enc (enc)
theorem ix_t {γ : Type} {xs : List γ} {f : γ → PyData} {i : Nat} {x : γ} (h : xs[i]? = some x) : ixD (.tuple (xs.map f)) (.int (i : Int)) = some (f x) := ixD_t (by rw [List.getElem?_map, h]; rfl)
theorem ix_l {γ : Type} {xs : List γ} {f : γ → PyData} {i : Nat} {x : γ} (h : xs[i]? = some x) : ixD (.list (xs.map f)) (.int (i : Int)) = some (f x) := ixD_l (by rw [List.getElem?_map, h]; rfl)
theorem range_set (t : Nat) (F : Nat → Nat) (j v : Nat) : ((List.range t).map F).set j v = (List.range t).map fun i => if i = j then v else F i := by
  apply List.ext_getElem
  · simp
  · intro i h1 h2
    simp [List.getElem_set, eq_comm]
/-- a comprehension that changes the store -/
theorem lc_s {γ : Type} {i : DI} {own : List Nat} {g : DG} {c : DB} {e : DE} {ρ : EnvD} {st st1 : Store} (xs : List γ) (φ : γ → PyData) (I : List γ → List PyData → Store → Prop) (hi : i ρ st = .ok (xs.map φ) st1) (h0 : I [] [] st1)
    (hs : ∀ done x rest rs st, xs = done ++ x :: rest → I done rs st → ∃ ρ1, g (φ x) (frzG own 0 ρ) = some ρ1 ∧
      ((∃ st', c ρ1 st = .ok false st' ∧ I (done ++ [x]) rs st') ∨ ∃ st' y st2, c ρ1 st = .ok true st' ∧ e ρ1 st' = .ok y st2 ∧ I (done ++ [x]) (rs ++ [y]) st2)) (hl : xs.length ≤ sizeLine) :
    ∃ rs st', eLc i own g (bdLast c e) ρ st = .ok (.list rs) st' ∧ I xs rs st' := by
  simp only [← frzE_G] at hs
  have go : ∀ (rest done : List γ) (rs : List PyData) (st : Store), xs = done ++ rest → rs.length ≤ done.length → I done rs st → ∃ rs' st', lcGo g (frzE own ρ) (bdLast c e) (rest.map φ) st rs = .ok rs' st' ∧ I xs rs' st' := by
    intro rest
    induction rest with
    | nil =>
      intro done rs st e' _ h
      rw [List.append_nil] at e'
      subst e'
      exact ⟨rs, st, by simp [lcGo], h⟩
    | cons x rest ih =>
      intro done rs st e' hr h
      obtain ⟨ρ1, h1, h2⟩ := hs done x rest rs st e' h
      have e2 : xs = (done ++ [x]) ++ rest := by rw [e']; simp
      have hln : rs.length < sizeLine := by
        have := congrArg List.length e'
        simp only [List.length_append, List.length_cons] at this
        omega
      rw [List.map_cons, lcGo, h1, ER.of_some, ER.bind_ok]
      rcases h2 with ⟨st', h3, h4⟩ | ⟨st', y, st2, h3, h5, h4⟩
      · have : bdLast c e ρ1 st rs = .ok rs st' := by simp [bdLast, h3, noX]
        rw [this, ER.bind_ok]
        exact ih _ _ _ e2 (by simp; omega) h4
      · have : bdLast c e ρ1 st rs = .ok (rs ++ [y]) st2 := by
          simp only [bdLast, h3, noX, ER.bind_ok, if_true, h5]
          rw [if_pos hln]
        rw [this, ER.bind_ok]
        exact ih _ _ _ e2 (by simp; omega) h4
  obtain ⟨rs, st', h1, h2⟩ := go xs [] [] st1 rfl (Nat.le_refl _) h0
  refine ⟨rs, st', ?_, h2⟩
  unfold eLc
  rw [hi]
  simp only [ER.bind_ok, h1, noX]
/-! ### sorting of typed values -/
theorem alike_ints : ∀ xs ys : List Int, W.alikeAll (xs.map .int) (ys.map .int) = true
  | [], _ => by simp [W.alikeAll]
  | _ :: _, [] => by simp [W.alikeAll]
  | x :: xs, y :: ys => by
    rw [List.map_cons, List.map_cons, W.alikeAll, alike_ints xs ys]
    rfl
theorem okSort_rows (rs : List (List Int)) (h : ∀ r ∈ rs, r ≠ []) : okSort (rs.map fun r => PyData.tuple (r.map .int)) = true := by
  have h1 : allAlike (rs.map fun r => PyData.tuple (r.map .int)) = true := by
    unfold allAlike
    simp only [List.all_map, List.all_eq_true, Function.comp]
    intro a _ b _
    exact alike_ints a b
  have h2 : sortable (rs.map fun r => PyData.tuple (r.map .int)) = true := by
    unfold sortable
    rw [Bool.or_eq_true]
    refine .inl ?_
    rw [List.all_map, List.all_eq_true]
    intro r hr
    cases r with
    | nil => exact absurd rfl (h _ hr)
    | cons _ _ => rfl
  have h3 : PyData.plainAll (rs.map fun r => PyData.tuple (r.map .int)) = true := by
    clear h h1 h2
    induction rs with
    | nil => rfl
    | cons r rs ih =>
      rw [List.map_cons, PyData.plainAll, ih]
      show (PyData.plainAll (r.map enc) && true) = true
      rw [enc_plainAll r]
      rfl
  have h4 : PyData.depthAll (rs.map fun r => PyData.tuple (r.map .int)) ≤ 1 := by
    clear h h1 h2 h3
    induction rs with
    | nil => exact Nat.zero_le _
    | cons r rs ih =>
      rw [List.map_cons, PyData.depthAll]
      have : (PyData.tuple (r.map .int)).depth ≤ 1 := Nat.succ_le_succ (enc_depthAll r)
      omega
  unfold okSort
  rw [h1, h2, h3]
  simp only [Bool.and_self, Bool.true_and, decide_eq_true_eq]
  omega
theorem sortL_rows (rs : List (List Int)) : sortL (rs.map fun r => PyData.tuple (r.map .int)) = (rs.mergeSort leR).map fun r => PyData.tuple (r.map .int) := by
  unfold sortL
  refine (List.map_mergeSort ?_).symm
  intro a _ b _
  exact (congrFun (congrFun (dataLe_rowE (β := List Int) id) a) b).symm
theorem sort_rows (rs : List (List Int)) (h : ∀ r ∈ rs, r ≠ []) : sortedD [.list (rs.map enc)] = some (.list ((rs.mergeSort leR).map enc)) := by
  show (if okSort (rs.map fun r => PyData.tuple (r.map .int)) = true then some (PyData.list (sortL (rs.map fun r => PyData.tuple (r.map .int)))) else none) = _
  rw [if_pos (okSort_rows rs h), sortL_rows]
  rfl
def castR (r : List Nat) : List Int := r.map fun (n : Nat) => (n : Int)
theorem castR_inj {a b : List Nat} (h : castR a = castR b) : a = b := by
  induction a generalizing b with
  | nil => cases b with
    | nil => rfl
    | cons _ _ => cases h
  | cons x a ih => cases b with
    | nil => cases h
    | cons y b =>
      have h : (x : Int) :: castR a = (y : Int) :: castR b := h
      injection h with h1 h2
      have : x = y := by omega
      rw [this, ih h2]
/-- rows of numbers in order -/
def leN (a b : List Nat) : Bool := leR (castR a) (castR b)
theorem leN_t : ∀ a b c : List Nat, leN a b = true → leN b c = true → leN a c = true := fun _ _ _ => leR_t _ _ _
theorem leN_o : ∀ a b : List Nat, (leN a b || leN b a) = true := fun _ _ => leR_o _ _
theorem leN_a : ∀ a b : List Nat, leN a b = true → leN b a = true → a = b := fun _ _ h k => castR_inj (leR_a _ _ h k)
theorem enc_cast (r : List Nat) : enc r = PyData.tuple ((castR r).map .int) := by
  show PyData.tuple (r.map enc) = _
  unfold castR
  rw [List.map_map]
  rfl
theorem sort_rowsN (rs : List (List Nat)) (h : ∀ r ∈ rs, r ≠ []) : sortedD [.list (rs.map enc)] = some (.list ((rs.mergeSort leN).map enc)) := by
  have e : (rs.map enc) = (rs.map castR).map fun r => PyData.tuple (r.map .int) := by
    rw [List.map_map]
    apply List.map_congr_left
    intro r _
    exact enc_cast r
  have := sort_rows (rs.map castR) (by
    intro r hr
    obtain ⟨q, hq, rfl⟩ := List.mem_map.mp hr
    have := h q hq
    cases q with
    | nil => exact absurd rfl this
    | cons _ _ => exact fun z => nomatch z)
  rw [e]
  refine Eq.trans this ?_
  rw [← List.map_mergeSort (r := leN) (s := leR) (f := castR) (fun _ _ _ _ => rfl)]
  rw [List.map_map]
  congr 2
  apply List.map_congr_left
  intro r _
  exact (enc_cast r).symm
theorem dups_map {α β : Type} [BEq α] [LawfulBEq α] [BEq β] [LawfulBEq β] (f : α → β) (hf : ∀ a b, f a = f b → a = b) : ∀ (n : Nat) (l : List α), l.length ≤ n → (l.map f).eraseDups = l.eraseDups.map f
  | 0, l, h => by
    cases l with
    | nil => rfl
    | cons _ _ => simp at h
  | n + 1, l, h => by
    cases l with
    | nil => rfl
    | cons a l =>
      rw [List.map_cons, List.eraseDups_cons, List.eraseDups_cons, List.map_cons]
      congr 1
      have e : (l.map f).filter (fun b => !b == f a) = (l.filter fun b => !b == a).map f := by
        rw [List.filter_map]
        congr 1
        apply List.filter_congr
        intro b _
        show (!(f b == f a)) = (!(b == a))
        congr 1
        rw [Bool.eq_iff_iff, beq_iff_eq, beq_iff_eq]
        exact ⟨hf _ _, congrArg f⟩
      rw [e]
      exact dups_map f hf n _ (Nat.le_trans (List.length_filter_le _ _) (by simpa using h))
theorem dups_len {α : Type} [BEq α] [LawfulBEq α] : ∀ (n : Nat) (l : List α), l.length ≤ n → l.eraseDups.length ≤ l.length
  | 0, l, h => by
    cases l with
    | nil => exact Nat.le_refl _
    | cons _ _ => simp at h
  | n + 1, l, h => by
    cases l with
    | nil => exact Nat.le_refl _
    | cons a l =>
      rw [List.eraseDups_cons, List.length_cons, List.length_cons]
      have h1 := List.length_filter_le (fun b => !b == a) l
      have h2 := dups_len n (l.filter fun b => !b == a) (Nat.le_trans h1 (by simpa using h))
      omega
theorem asRows_c (rs : List (List Int)) : asRows (rs.map fun r => PyData.tuple (r.map .int)) = some rs := by
  induction rs with
  | nil => rfl
  | cons r rs ih =>
    show ((asInts (r.map .int)).bind fun r => (asRows (rs.map fun r => PyData.tuple (r.map .int))).map fun rs => r :: rs) = _
    rw [asInts_i, ih]
    rfl
theorem sortSet_rowsN (rs : List (List Nat)) (h0 : rs ≠ []) (h : ∀ r ∈ rs, r ≠ []) (hl : rs.length < 64) : sortSetD (.list (rs.map enc)) = some (.list ((rs.eraseDups.mergeSort leN).map enc)) := by
  have e : (rs.map enc) = (rs.map castR).map fun r => PyData.tuple (r.map .int) := by
    rw [List.map_map]
    apply List.map_congr_left
    intro r _
    exact enc_cast r
  have e2 : asInts ((rs.map castR).map fun r => PyData.tuple (r.map .int)) = none := by
    cases rs with
    | nil => exact absurd rfl h0
    | cons _ _ => rfl
  unfold sortSetD
  have e3 : (rs.map castR).length < 64 ∧ ((rs.map castR).all fun r => !r.isEmpty) = true := by
    refine ⟨by simpa using hl, ?_⟩
    rw [List.all_map, List.all_eq_true]
    intro r hr
    have := h r hr
    cases r with
    | nil => exact absurd rfl this
    | cons _ _ => rfl
  rw [seqOf_l, Option.bind_some, e, e2, asRows_c, Option.bind_some]
  simp only []
  rw [if_pos e3]
  congr 2
  unfold sortR
  rw [dups_map castR (fun _ _ => castR_inj) _ rs (Nat.le_refl _)]
  rw [← List.map_mergeSort (r := leN) (s := leR) (f := castR) (fun _ _ _ _ => rfl), List.map_map]
  apply List.map_congr_left
  intro r _
  exact (enc_cast r).symm
def leZ (a b : Nat) : Bool := decide (a ≤ b)
theorem sortSet_nats (ns : List Nat) (hl : ns.length < 64) : sortSetD (.list (ns.map enc)) = some (.list ((ns.eraseDups.mergeSort leZ).map enc)) := by
  have e : (ns.map enc) = (castR ns).map PyData.int := by
    unfold castR
    rw [List.map_map]
    rfl
  unfold sortSetD
  rw [seqOf_l, Option.bind_some, e, asInts_i]
  simp only []
  rw [if_pos (by unfold castR; simpa using hl)]
  congr 2
  unfold sortI castR
  rw [dups_map (fun (n : Nat) => (n : Int)) (fun a b h => by omega) _ ns (Nat.le_refl _)]
  rw [← List.map_mergeSort (r := leZ) (s := leI) (f := fun (n : Nat) => (n : Int)) (fun a _ b _ => by simp [leZ, leI]), List.map_map]
  rfl
end Ev
end

section
set_option maxRecDepth 100000
set_option maxHeartbeats 400000
namespace Ev
open PySem PySem.Spec PyProof.Rows L2
open Enc (enc)
section
variable {ρ : EnvD} {st : Store}
theorem lcGo_t {γ : Type} {ρ0 : EnvD} {g : DG} {c : DB} {e : DE} (φ : γ → PyData) (p : γ → Bool) (f : γ → PyData) : ∀ (xs : List γ) (rs : List PyData), (∀ x ∈ xs, ∃ ρ1, g (φ x) ρ0 = some ρ1 ∧ c ρ1 st = .ok (p x) st ∧ (p x = true → e ρ1 st = .ok (f x) st)) → rs.length + xs.length ≤ sizeLine →
    lcGo g ρ0 (bdLast c e) (xs.map φ) st rs = .ok (rs ++ (xs.filter p).map f) st
  | [], rs, _, _ => by simp [lcGo]
  | x :: xs, rs, h, hl => by
    obtain ⟨ρ1, h1, h2, h3⟩ := h x List.mem_cons_self
    rw [List.map_cons, lcGo, h1, ER.of_some, ER.bind_ok]
    rw [List.length_cons] at hl
    by_cases hp : p x = true
    · rw [hp] at h2
      rw [bd_yes h2 (h3 hp) (by omega), ER.bind_ok, lcGo_t φ p f xs _ (fun y hy => h y (List.mem_cons_of_mem _ hy)) (by rw [List.length_append, List.length_singleton]; omega), List.filter_cons_of_pos hp, List.map_cons, List.append_assoc, List.singleton_append]
    · rw [Bool.not_eq_true] at hp
      rw [hp] at h2
      rw [bd_no h2, ER.bind_ok, lcGo_t φ p f xs _ (fun y hy => h y (List.mem_cons_of_mem _ hy)) (by omega), List.filter_cons_of_neg (by rw [hp]; exact Bool.false_ne_true)]
/-- a comprehension of two clauses over typed values -/
theorem lc2_t {γ δ : Type} {i i1 : DI} {own vs1 : List Nat} {g g1 : DG} {c c1 : DB} {e : DE} (xs : List γ) (φ : γ → PyData) (p : γ → Bool) (ys : γ → List δ) (ψ : δ → PyData) (q : γ → δ → Bool) (f : γ → δ → PyData) (hi : i ρ st = .ok (xs.map φ) st)
    (h : ∀ x ∈ xs, ∃ ρ1, g (φ x) (frzG own 0 ρ) = some ρ1 ∧ c ρ1 st = .ok (p x) st ∧ (p x = true → i1 ρ1 st = .ok ((ys x).map ψ) st ∧ ∀ y ∈ ys x, ∃ ρ2, g1 (ψ y) (frzG vs1 0 ρ1) = some ρ2 ∧ c1 ρ2 st = .ok (q x y) st ∧ (q x y = true → e ρ2 st = .ok (f x y) st)))
    (hl : (xs.flatMap ys).length ≤ sizeLine) :
    eLc i own g (bdFor c i1 vs1 g1 (bdLast c1 e)) ρ st = .ok (.list ((xs.filter p).flatMap fun x => ((ys x).filter (q x)).map (f x))) st := by
  simp only [← frzE_G] at h
  have go : ∀ (xs : List γ) (rs : List PyData), (∀ x ∈ xs, ∃ ρ1, g (φ x) (frzE own ρ) = some ρ1 ∧ c ρ1 st = .ok (p x) st ∧ (p x = true → i1 ρ1 st = .ok ((ys x).map ψ) st ∧ ∀ y ∈ ys x, ∃ ρ2, g1 (ψ y) (frzE vs1 ρ1) = some ρ2 ∧ c1 ρ2 st = .ok (q x y) st ∧ (q x y = true → e ρ2 st = .ok (f x y) st))) → rs.length + (xs.flatMap ys).length ≤ sizeLine →
      lcGo g (frzE own ρ) (bdFor c i1 vs1 g1 (bdLast c1 e)) (xs.map φ) st rs = .ok (rs ++ (xs.filter p).flatMap fun x => ((ys x).filter (q x)).map (f x)) st := by
    intro xs
    induction xs with
    | nil => intro rs _ _; simp [lcGo]
    | cons x xs ih =>
      intro rs h hl
      obtain ⟨ρ1, h1, h2, h3⟩ := h x List.mem_cons_self
      rw [List.flatMap_cons, List.length_append] at hl
      rw [List.map_cons, lcGo, h1, ER.of_some, ER.bind_ok]
      by_cases hp : p x = true
      · rw [hp] at h2
        obtain ⟨h4, h5⟩ := h3 hp
        have b : bdFor c i1 vs1 g1 (bdLast c1 e) ρ1 st rs = .ok (rs ++ ((ys x).filter (q x)).map (f x)) st := by
          simp only [bdFor, h2, noX, ER.bind_ok, if_true, h4]
          exact lcGo_t ψ (q x) (f x) (ys x) rs h5 (by omega)
        have hlen : (((ys x).filter (q x)).map (f x)).length ≤ (ys x).length := by
          rw [List.length_map]
          exact List.length_filter_le _ _
        rw [b, ER.bind_ok, ih _ (fun y hy => h y (List.mem_cons_of_mem _ hy)) (by rw [List.length_append]; omega), List.filter_cons_of_pos hp, List.flatMap_cons, List.append_assoc]
      · rw [Bool.not_eq_true] at hp
        rw [hp] at h2
        have b : bdFor c i1 vs1 g1 (bdLast c1 e) ρ1 st rs = .ok rs st := by
          simp [bdFor, h2, noX]
        rw [b, ER.bind_ok, ih _ (fun y hy => h y (List.mem_cons_of_mem _ hy)) (by omega), List.filter_cons_of_neg (by rw [hp]; exact Bool.false_ne_true)]
  unfold eLc
  rw [hi]
  simp only [ER.bind_ok]
  rw [go xs [] h (by simpa using hl)]
  simp [noX]
/-! extend, steps, moves, dicts as simp rules -/
@[simp] theorem ap_sExt {i : Nat} {M : List Nat} {fr : Bool} {f : DE} : sExt i M fr f ρ st = if (rdL i ρ st).isSome = true then eS (f ρ st) fun d st => match rdL i (dropFor M fr d ρ) st, d with
  | some (ds, w), .list es => if ds.length + es.length ≤ sizeLine ∧ (w = none ∨ noLs es = true) then putL i w (ds ++ es) (dropFor M fr d ρ) st else .stuck
  | _, _ => .stuck else .stuck := id rfl
@[simp] theorem ap_sExtB {i : Nat} {M : List Nat} {fr : Bool} {f : DE} : sExtB i M fr f ρ st = if (rdL i ρ st).isSome = true then eS (f ρ st) fun d st => match rdL i (dropFor M fr d ρ) st, d with
  | some (ds, w), .list es => if ds.length + es.length ≤ sizeLine ∧ (w = none ∨ noLs es = true) then putL i w (ds ++ es) (dropFor M fr d ρ) st else .stuck
  | some (ds, w), .tuple es => if ds.length + es.length ≤ sizeLine ∧ (w = none ∨ noLs es = true) then putL i w (ds ++ es) (dropFor M fr d ρ) st else .stuck
  | _, _ => .stuck else .stuck := id rfl
@[simp] theorem ap_sMove {i j : Nat} : sMove i j ρ st = match ρ[j]? with
  | some (some (d, true)) => if i < ρ.length ∧ i ≠ j then .nx ((ρ.set j none).set i (some (d, true))) st else .stuck
  | _ => .stuck := id rfl
@[simp] theorem ap_eSt {f : DE} {lo hi so : DO} : eSt f lo hi so ρ st = (f ρ st).bind fun d st => (lo ρ st).bind fun l st => (hi ρ st).bind fun h st => (so ρ st).bind fun k st => .of (stepD d l h k) st := id rfl
@[simp] theorem ap_iKeysD {f : DE} : iKeysD f ρ st = (f ρ st).bind fun d st => .of (keysD d) st := id rfl
end
/-! rows reversed -/
theorem stepL_rev {γ : Type} (xs : List γ) : stepL xs none none (-1) = xs.reverse := by
  unfold stepL
  have a1 : (Builtin.Slice.sliceAdjust none none (-1) (xs.length : Int)) = ((xs.length : Int) - 1, -1) := by
    simp [Builtin.Slice.sliceAdjust]
  rw [a1]
  simp only []
  have a2 : Builtin.Slice.slicePlaces ((xs.length : Int) - 1) (-1) (-1) = xs.length := by
    unfold Builtin.Slice.slicePlaces
    rw [if_neg (by decide)]
    by_cases h : (xs.length : Int) - 1 > -1
    · rw [if_pos h]
      have : (((xs.length : Int) - 1 - -1 - 1) / (- -1)) = (xs.length : Int) - 1 := by
        rw [show (- -1 : Int) = 1 from rfl, Int.ediv_one]
        omega
      rw [this]
      omega
    · rw [if_neg h]
      omega
  rw [a2]
  apply List.ext_getElem?
  intro i
  have key : ∀ (n : Nat), n ≤ xs.length → (List.range n).filterMap (fun (k : Nat) => xs[((xs.length : Int) - 1 + (k : Int) * -1).toNat]?) = (xs.reverse).take n := by
    intro n
    induction n with
    | zero => intro _; simp
    | succ n ih =>
      intro hn
      rw [List.range_succ, List.filterMap_append, ih (by omega)]
      have e : ((xs.length : Int) - 1 + (n : Int) * -1).toNat = xs.length - 1 - n := by omega
      have hx : xs.length - 1 - n < xs.length := by omega
      simp only [List.filterMap_cons, List.filterMap_nil, e, List.getElem?_eq_getElem hx]
      rw [List.take_succ, List.getElem?_reverse (by omega), List.getElem?_eq_getElem hx]
      rfl
  rw [key xs.length (Nat.le_refl _), List.take_of_length_le (by simp)]
theorem step_rev (xs : List PyData) (h : xs.length ≤ 1000) : stepD (.tuple xs) none none (some (-1)) = some (.tuple xs.reverse) := by
  unfold stepD
  simp only []
  rw [if_neg (by rw [stepL_rev, List.length_reverse, sizeL]; omega), stepL_rev]
theorem rng2_n {a b : Nat} (ha : a ≤ 1000) (hb : b ≤ 1000) : rng2Of [.int (a : Int), .int (b : Int)] = some ((List.range' a (b - a)).map enc) := by
  unfold rng2Of
  simp only []
  rw [if_pos (by omega)]
  congr 1
  have e : ((b : Int) - (a : Int)).toNat = b - a := by omega
  rw [e]
  apply List.ext_getElem
  · simp
  · intro i h1 h2
    simp
/-! ### typed values in order -/
class EncO (α : Type) [BEq α] [LawfulBEq α] extends EncE α where
  lt : α → α → Bool
  dl : ∀ a b, W.dataLt (enc a) (enc b) = lt a b
  al : ∀ a b, W.alike (enc a) (enc b) = true
  irr : ∀ a, lt a a = false
  tr : ∀ a b c, lt a b = true → lt b c = true → lt a c = true
  tot : ∀ a b, a ≠ b → lt a b = true ∨ lt b a = true
instance : EncO Nat where
  toEncE := inferInstance
  lt a b := decide (a < b)
  dl a b := by
    show W.dataLt (.int (a : Int)) (.int (b : Int)) = _
    rw [W.dataLt_int]
    simp
  al _ _ := rfl
  irr a := by simp
  tr a b c h1 h2 := by simp at *; omega
  tot a b h := by simp; omega
instance : EncO Int where
  toEncE := inferInstance
  lt a b := decide (a < b)
  dl a b := W.dataLt_int a b
  al _ _ := rfl
  irr a := by simp
  tr a b c h1 h2 := by simp at *; omega
  tot a b h := by simp; omega
section
variable {α β : Type} [BEq α] [LawfulBEq α] [BEq β] [LawfulBEq β]
def lexL [EncO α] : List α → List α → Bool
  | [], [] => false
  | [], _ :: _ => true
  | _ :: _, [] => false
  | x :: xs, y :: ys => if x == y then lexL xs ys else EncO.lt x y
theorem lexL_dl [EncO α] : ∀ xs ys : List α, PyProof.Rows.lexLt itemOrd (W.keyToksAll (xs.map enc)) (W.keyToksAll (ys.map enc)) = lexL xs ys
  | [], [] => lex_irrefl _
  | [], y :: ys => by
    rw [List.map_nil, List.map_cons, W.toks_all_cons]
    rfl
  | x :: xs, [] => by
    rw [List.map_nil, List.map_cons, W.toks_all_cons]
    rfl
  | x :: xs, y :: ys => by
    rw [List.map_cons, List.map_cons, W.dataLt_cons (EncO.al x y), EncE.eqv, EncO.dl, lexL_dl xs ys]
    rfl
theorem lexL_irr [EncO α] : ∀ xs : List α, lexL xs xs = false
  | [] => rfl
  | x :: xs => by
    unfold lexL
    rw [if_pos (by simp)]
    exact lexL_irr xs
theorem lexL_tr [EncO α] : ∀ a b c : List α, lexL a b = true → lexL b c = true → lexL a c = true
  | [], [], _, h, _ => by cases h
  | [], _ :: _, [], _, h => by cases h
  | [], _ :: _, _ :: _, _, _ => rfl
  | _ :: _, [], _, h, _ => by cases h
  | _ :: _, _ :: _, [], _, h => by cases h
  | x :: a, y :: b, z :: c, h1, h2 => by
    unfold lexL at h1 h2 ⊢
    by_cases e1 : (x == y) = true
    · rw [if_pos e1] at h1
      have e1 := eq_of_beq e1
      subst e1
      by_cases e2 : (x == z) = true
      · rw [if_pos e2] at h2 ⊢
        exact lexL_tr a b c h1 h2
      · rw [if_neg e2] at h2 ⊢
        exact h2
    · rw [if_neg e1] at h1
      by_cases e2 : (y == z) = true
      · have e2 := eq_of_beq e2
        subst e2
        rw [if_neg e1]
        exact h1
      · rw [if_neg e2] at h2
        have h3 := EncO.tr _ _ _ h1 h2
        have : ¬ (x == z) = true := fun q => by
          have q := eq_of_beq q
          subst q
          rw [EncO.irr] at h3
          cases h3
        rw [if_neg this]
        exact h3
theorem lexL_tot [EncO α] : ∀ a b : List α, a ≠ b → lexL a b = true ∨ lexL b a = true
  | [], [], h => absurd rfl h
  | [], _ :: _, _ => .inl rfl
  | _ :: _, [], _ => .inr rfl
  | x :: a, y :: b, h => by
    unfold lexL
    by_cases e : x = y
    · subst e
      rw [if_pos (by simp), if_pos (by simp)]
      exact lexL_tot a b fun q => h (by rw [q])
    · have e1 : ¬ (x == y) = true := by simpa using e
      have e2 : ¬ (y == x) = true := by simpa using Ne.symm e
      rw [if_neg e1, if_neg e2]
      exact EncO.tot x y e
theorem alikeAll_enc [EncO α] : ∀ xs ys : List α, W.alikeAll (xs.map enc) (ys.map enc) = true
  | [], _ => by simp [W.alikeAll]
  | _ :: _, [] => by simp [W.alikeAll]
  | x :: xs, y :: ys => by
    rw [List.map_cons, List.map_cons, W.alikeAll, EncO.al, alikeAll_enc xs ys]
    rfl
@[reducible] def ordList [EncO α] (h : Enc.dep α + 1 ≤ 64) : EncO (List α) where
  toEncE := encList h
  lt := lexL
  dl xs ys := (W.dataLt_tuple _ _).trans (lexL_dl xs ys)
  al xs ys := alikeAll_enc xs ys
  irr := lexL_irr
  tr := lexL_tr
  tot := lexL_tot
@[reducible] def ordProd [EncO α] [EncO β] (h : max (Enc.dep α) (Enc.dep β) + 1 ≤ 64) : EncO (α × β) where
  toEncE := encProd h
  lt p q := if p.1 == q.1 then EncO.lt p.2 q.2 else EncO.lt p.1 q.1
  dl p q := by
    show W.dataLt (.tuple [enc p.1, enc p.2]) (.tuple [enc q.1, enc q.2]) = _
    rw [W.dataLt_pair (EncO.al _ _) (EncO.al _ _), EncE.eqv, EncE.eqv, EncO.dl, EncO.dl]
    by_cases e : (p.1 == q.1) = true
    · rw [if_pos e, if_pos e]
      by_cases e2 : (p.2 == q.2) = true
      · rw [if_pos e2, eq_of_beq e2, EncO.irr]
      · rw [if_neg e2]
    · rw [if_neg e, if_neg e]
  al p q := by
    show W.alikeAll [enc p.1, enc p.2] [enc q.1, enc q.2] = true
    simp [W.alikeAll, EncO.al]
  irr p := by rw [if_pos (by simp)]; exact EncO.irr _
  tr p q r h1 h2 := by
    by_cases e1 : (p.1 == q.1) = true
    · rw [if_pos e1] at h1
      have e1 := eq_of_beq e1
      rw [← e1] at h2
      by_cases e2 : (p.1 == r.1) = true
      · rw [if_pos e2] at h2 ⊢
        exact EncO.tr _ _ _ h1 h2
      · rw [if_neg e2] at h2 ⊢
        exact h2
    · rw [if_neg e1] at h1
      by_cases e2 : (q.1 == r.1) = true
      · have e2 := eq_of_beq e2
        rw [← e2, if_neg e1]
        exact h1
      · rw [if_neg e2] at h2
        have h3 := EncO.tr _ _ _ h1 h2
        have : ¬ (p.1 == r.1) = true := fun z => by
          rw [eq_of_beq z, EncO.irr] at h3
          cases h3
        rw [if_neg this]
        exact h3
  tot p q h := by
    by_cases e : p.1 = q.1
    · have e2 : p.2 ≠ q.2 := fun z => h (Prod.ext e z)
      rw [if_pos (by simp [e]), if_pos (by simp [e])]
      exact EncO.tot _ _ e2
    · rw [if_neg (by simpa using e), if_neg (by simpa using Ne.symm e)]
      exact EncO.tot _ _ e
def leO [EncO α] (a b : α) : Bool := !EncO.lt b a
theorem leO_t [EncO α] (a b c : α) (h1 : leO a b = true) (h2 : leO b c = true) : leO a c = true := by
  unfold leO at *
  simp only [Bool.not_eq_true'] at *
  cases h : EncO.lt c a with
  | false => rfl
  | true =>
    by_cases e : a = b
    · subst e
      rw [h] at h2
      cases h2
    · rcases EncO.tot a b e with z | z
      · have := EncO.tr _ _ _ h z
        rw [this] at h2
        cases h2
      · rw [z] at h1
        cases h1
theorem leO_o [EncO α] (a b : α) : (leO a b || leO b a) = true := by
  unfold leO
  cases h : EncO.lt b a with
  | false => rfl
  | true =>
    cases h2 : EncO.lt a b with
    | false => rfl
    | true =>
      have := EncO.tr _ _ _ h h2
      rw [EncO.irr] at this
      cases this
theorem leO_a [EncO α] (a b : α) (h1 : leO a b = true) (h2 : leO b a = true) : a = b := by
  by_cases e : a = b
  · exact e
  · unfold leO at *
    simp only [Bool.not_eq_true'] at *
    rcases EncO.tot a b e with z | z
    · rw [z] at h2; cases h2
    · rw [z] at h1; cases h1
theorem sort_t [EncO α] (xs : List α) (hs : sortable (xs.map enc) = true) : sortedD [.list (xs.map enc)] = some (.list ((xs.mergeSort leO).map enc)) := by
  have h1 : allAlike (xs.map enc) = true := by
    unfold allAlike
    simp only [List.all_map, List.all_eq_true, Function.comp]
    intro a _ b _
    exact EncO.al a b
  have h4 := enc_depthAll xs
  have h5 := EncE.sh (α := α)
  have ok : okSort (xs.map enc) = true := by
    unfold okSort
    rw [h1, hs, enc_plainAll]
    simp only [Bool.and_self, Bool.true_and, decide_eq_true_eq]
    omega
  show (if okSort (xs.map enc) = true then some (PyData.list (sortL (xs.map enc))) else none) = _
  rw [if_pos ok]
  congr 2
  unfold sortL
  refine (List.map_mergeSort ?_).symm
  intro a _ b _
  show (!EncO.lt b a) = (!W.dataLt (enc b) (enc a))
  rw [EncO.dl]
/-- a list in strict order that has the same members, once each, is the sorted one -/
theorem sort_uniq [EncO α] {xs ys : List α} (p : xs.Perm ys) (h : ys.Pairwise fun a b => leO a b = true) : xs.mergeSort leO = ys :=
  sorted_one leO_a ((List.mergeSort_perm _ _).trans p) (List.pairwise_mergeSort leO_t leO_o _) h
end
instance : EncO (List Nat) := ordList (by decide)
instance : EncO (Nat × Nat) := ordProd (by decide)
instance : EncO (Nat × List Nat) := ordProd (by decide)
instance : EncO (List (List Nat)) := ordList (by decide)
theorem sortable_pairs {β : Type} [BEq β] [LawfulBEq β] (f : β → PyData) (xs : List β) (h : ∀ x, ∃ a r, f x = .tuple (a :: r)) : sortable (xs.map f) = true := by
  unfold sortable
  rw [Bool.or_eq_true]
  refine .inl ?_
  rw [List.all_map, List.all_eq_true]
  intro x _
  obtain ⟨a, r, e⟩ := h x
  show (match f x with | .tuple (_ :: _) => true | _ => false) = true
  rw [e]
end Ev
end

section
set_option maxRecDepth 100000
set_option maxHeartbeats 400000
namespace Ev
open PySem PySem.Spec PyProof.Rows L2
open Enc (enc)
theorem addD_tt {xs ys : List PyData} (h : xs.length + ys.length ≤ 1000) : addD (.tuple xs) (.tuple ys) = some (.tuple (xs ++ ys)) := if_pos (by show _ ≤ 16777216; omega)
theorem addD_ll {xs ys : List PyData} (h : xs.length + ys.length ≤ 1000) : addD (.list xs) (.list ys) = some (.list (xs ++ ys)) := if_pos (by show _ ≤ 16777216; omega)
/-- a loop that ends at the first element that tells -/
theorem for_find {γ : Type} {g : DG} {b : DS} (φ : γ → PyData) (J : EnvD → Prop) (f : γ → Option PyData) : ∀ (xs : List γ) {ρ : EnvD} {st : Store}, J ρ →
    (∀ x ∈ xs, ∀ ρ, J ρ → ∃ ρ1, g (φ x) ρ = some ρ1 ∧ ((∃ d, f x = some d ∧ b ρ1 st = .ret d false st) ∨ (f x = none ∧ ∃ ρ2, J ρ2 ∧ b ρ1 st = .nx ρ2 st))) →
    (∃ d, xs.findSome? f = some d ∧ forGo g b (xs.map φ) ρ st = .ret d false st) ∨ (xs.findSome? f = none ∧ ∃ ρ2, J ρ2 ∧ forGo g b (xs.map φ) ρ st = .nx ρ2 st)
  | [], ρ, st, h0, _ => .inr ⟨rfl, ρ, h0, rfl⟩
  | x :: xs, ρ, st, h0, hs => by
    obtain ⟨ρ1, h1, h2⟩ := hs x List.mem_cons_self ρ h0
    rw [List.map_cons, forGo, h1]
    rcases h2 with ⟨d, hd, hb⟩ | ⟨hn, ρ2, hj, hb⟩
    · exact .inl ⟨d, by rw [List.findSome?_cons, hd], by simp only [hb]⟩
    · have := for_find φ J f xs (ρ := ρ2) (st := st) hj fun y hy => hs y (List.mem_cons_of_mem _ hy)
      rw [List.findSome?_cons, hn]
      simp only [hb]
      exact this
theorem find_some {γ : Type} (p : γ → Bool) (f : γ → PyData) (xs : List γ) : xs.findSome? (fun x => if p x = true then some (f x) else none) = (xs.find? p).map f := by
  induction xs with
  | nil => rfl
  | cons x xs ih =>
    rw [List.findSome?_cons, List.find?_cons]
    cases h : p x <;> simp [h, ih]
theorem findSome_flat {γ δ ε : Type} (f : δ → Option ε) (g : γ → List δ) (xs : List γ) : (xs.flatMap g).findSome? f = xs.findSome? fun x => (g x).findSome? f := by
  induction xs with
  | nil => rfl
  | cons x xs ih =>
    rw [List.flatMap_cons, List.findSome?_append, ih, List.findSome?_cons]
    cases (g x).findSome? f <;> rfl
/-- a loop that adds to a number -/
theorem for_fold {γ δ : Type} {g : DG} {b : DS} (φ : γ → PyData) (J : δ → EnvD → Prop) (f : δ → γ → δ) : ∀ (xs : List γ) {ρ : EnvD} {st : Store} (a : δ), J a ρ →
    (∀ x ∈ xs, ∀ a ρ, J a ρ → ∃ ρ1 ρ2, g (φ x) ρ = some ρ1 ∧ b ρ1 st = .nx ρ2 st ∧ J (f a x) ρ2) →
    ∃ ρ2, forGo g b (xs.map φ) ρ st = .nx ρ2 st ∧ J (xs.foldl f a) ρ2
  | [], ρ, st, a, h0, _ => ⟨ρ, rfl, h0⟩
  | x :: xs, ρ, st, a, h0, hs => by
    obtain ⟨ρ1, ρ2, h1, h2, h3⟩ := hs x List.mem_cons_self a ρ h0
    rw [List.map_cons, forGo, h1]
    simp only [h2]
    exact for_fold φ J f xs (f a x) h3 fun y hy => hs y (List.mem_cons_of_mem _ hy)
theorem fold_count {γ : Type} (p : γ → Bool) (xs : List γ) : ∀ n : Nat, xs.foldl (fun n x => if p x = true then n + 1 else n) n = n + xs.countP p := by
  induction xs with
  | nil => intro n; rfl
  | cons x xs ih =>
    intro n
    rw [List.foldl_cons, ih, List.countP_cons]
    cases p x <;> simp; omega
theorem fold_filter {γ : Type} (p : γ → Bool) (xs : List γ) : ∀ a : List γ, xs.foldl (fun a x => if p x = true then a ++ [x] else a) a = a ++ xs.filter p := by
  induction xs with
  | nil => intro a; simp
  | cons x xs ih =>
    intro a
    rw [List.foldl_cons, ih, List.filter_cons]
    cases p x <;> simp
theorem fold_flat {γ δ : Type} (q : δ → Bool) (h : γ → List δ) (xs : List γ) : ∀ n : Nat, xs.foldl (fun n x => n + (h x).countP q) n = n + (xs.flatMap h).countP q := by
  induction xs with
  | nil => intro n; rfl
  | cons x xs ih =>
    intro n
    rw [List.foldl_cons, ih, List.flatMap_cons, List.countP_append]
    omega
/-! rows-dicts with typed keys and whole numbers -/
def dic (ks : List ((Nat × Nat) × Int)) : List (PyData × PyData) := ks.map fun p => (enc p.1, .int p.2)
theorem rowOf_nn (k : Nat × Nat) : rowOf (enc k) = some [(k.1 : Int), (k.2 : Int)] := rfl
theorem row_eq (k j : Nat × Nat) : (some [(k.1 : Int), (k.2 : Int)] = some [(j.1 : Int), (j.2 : Int)]) ↔ k = j := by
  constructor
  · intro h
    simp at h
    exact Prod.ext (by omega) (by omega)
  · rintro rfl; rfl
theorem dget_n (ks : List ((Nat × Nat) × Int)) (k : Nat × Nat) : dgetL (dic ks) [(k.1 : Int), (k.2 : Int)] = (ks.lookup k).map .int := by
  induction ks with
  | nil => rfl
  | cons x ks ih =>
    show (if rowOf (enc x.1) = some _ then _ else dgetL (dic ks) _) = _
    rw [rowOf_nn]
    by_cases h : x.1 = k
    · rw [if_pos ((row_eq _ _).mpr h), List.lookup_cons, h]
      simp
    · rw [if_neg (fun z => h ((row_eq _ _).mp z)), List.lookup_cons, beq_eq_false_iff_ne.mpr (fun z => h z.symm)]
      exact ih
def dput (ks : List ((Nat × Nat) × Int)) (k : Nat × Nat) (v : Int) : List ((Nat × Nat) × Int) := match ks with
  | [] => [(k, v)]
  | x :: r => if x.1 = k then (x.1, v) :: r else x :: dput r k v
theorem dput_n (ks : List ((Nat × Nat) × Int)) (k : Nat × Nat) (v : Int) : dputL (dic ks) [(k.1 : Int), (k.2 : Int)] (.int v) = dic (dput ks k v) := by
  induction ks with
  | nil => rfl
  | cons x ks ih =>
    show (if rowOf (enc x.1) = some _ then _ else (enc x.1, .int x.2) :: dputL (dic ks) _ _) = _
    rw [rowOf_nn, dput]
    by_cases h : x.1 = k
    · rw [if_pos ((row_eq _ _).mpr h), if_pos h]
      rfl
    · rw [if_neg (fun z => h ((row_eq _ _).mp z)), if_neg h, ih]
      rfl
theorem dput_get (ks : List ((Nat × Nat) × Int)) (k j : Nat × Nat) (v : Int) : (dput ks k v).lookup j = if j = k then some v else ks.lookup j := by
  induction ks with
  | nil =>
    rw [dput, List.lookup_cons]
    by_cases h : j = k
    · simp [h]
    · rw [if_neg h, beq_eq_false_iff_ne.mpr h]
  | cons x ks ih =>
    rw [dput]
    by_cases h : x.1 = k
    · rw [if_pos h, List.lookup_cons, List.lookup_cons]
      by_cases h2 : j = k
      · simp [h2, h]
      · rw [if_neg h2, h, beq_eq_false_iff_ne.mpr h2]
    · rw [if_neg h, List.lookup_cons, List.lookup_cons, ih]
      by_cases h2 : j = k
      · subst h2
        rw [if_pos rfl, beq_eq_false_iff_ne.mpr (fun z => h z.symm), if_pos rfl]
      · simp only [if_neg h2]
theorem dput_keys (ks : List ((Nat × Nat) × Int)) (k : Nat × Nat) (v : Int) : (dput ks k v).map (·.1) = if k ∈ ks.map (·.1) then ks.map (·.1) else ks.map (·.1) ++ [k] := by
  induction ks with
  | nil => simp [dput]
  | cons x ks ih =>
    rw [dput]
    by_cases h : x.1 = k
    · rw [if_pos h, if_pos (by simp [h])]
      rfl
    · rw [if_neg h, List.map_cons, List.map_cons, ih]
      by_cases h2 : k ∈ ks.map (·.1)
      · rw [if_pos h2, if_pos (List.mem_cons_of_mem _ h2)]
      · rw [if_neg h2, if_neg (fun z => by
          rcases List.mem_cons.mp z with z | z
          · exact h z.symm
          · exact h2 z)]
        rfl
theorem dput_nodup {ks : List ((Nat × Nat) × Int)} (h : (ks.map (·.1)).Nodup) (k : Nat × Nat) (v : Int) : ((dput ks k v).map (·.1)).Nodup := by
  rw [dput_keys]
  split
  · exact h
  · rename_i q
    rw [List.nodup_append]
    refine ⟨h, by simp, fun a ha b hb => ?_⟩
    rw [List.mem_singleton] at hb
    subst hb
    exact fun z => q (z ▸ ha)
theorem dput_len (ks : List ((Nat × Nat) × Int)) (k : Nat × Nat) (v : Int) : (dput ks k v).length ≤ ks.length + 1 := by
  induction ks with
  | nil => simp [dput]
  | cons x ks ih =>
    rw [dput]
    split
    · simp
    · simp; omega
theorem look_mem {κ ν : Type} [BEq κ] [LawfulBEq κ] {ks : List (κ × ν)} {k : κ} {v : ν} (h : ks.lookup k = some v) : (k, v) ∈ ks := by
  induction ks with
  | nil => cases h
  | cons x ks ih =>
    rw [List.lookup_cons] at h
    cases e : k == x.1 with
    | true =>
      rw [e] at h
      cases h
      rw [eq_of_beq e]
      exact List.mem_cons_self
    | false =>
      rw [e] at h
      exact List.mem_cons_of_mem _ (ih h)
theorem mem_look {κ ν : Type} [BEq κ] [LawfulBEq κ] {ks : List (κ × ν)} (nd : (ks.map (·.1)).Nodup) {k : κ} {v : ν} (h : (k, v) ∈ ks) : ks.lookup k = some v := by
  induction ks with
  | nil => cases h
  | cons x ks ih =>
    rw [List.map_cons, List.nodup_cons] at nd
    rw [List.lookup_cons]
    rcases List.mem_cons.mp h with h | h
    · subst h
      simp
    · have : (k == x.1) = false := by
        rw [beq_eq_false_iff_ne]
        intro e
        exact nd.1 (e ▸ List.mem_map.mpr ⟨_, h, rfl⟩)
      rw [this]
      exact ih nd.2 h
section
variable {ρ : EnvD} {st : Store}
@[simp] theorem keysD_dic (ks : List ((Nat × Nat) × Int)) : keysD (rdict (dic ks)) = some (ks.map fun p => enc p.1) := by
  show some ((dic ks).map (·.1)) = _
  rw [dic, List.map_map]
  rfl
@[simp] theorem rdOf_dic (ks : List ((Nat × Nat) × Int)) : rdOf (rdict (dic ks)) = some (dic ks) := id rfl
@[simp] theorem ap_eGet {fo fk fz : DE} : eGet fo fk fz ρ st = (fo ρ st).bind fun c st => match rdOf c with
  | some ds => (fk ρ st).bind fun k st => (fz ρ st).bind fun z st => match rowOf k with
    | some r => if noL ((dgetL ds r).getD z) = true then .ok ((dgetL ds r).getD z) st else .stuck
    | none => .stuck
  | none => .stuck := id rfl
@[simp] theorem ap_sDSet {i : Nat} {M : List Nat} {fr : Bool} {fk f : DE} : sDSet i M fr fk f ρ st = eS (f ρ st) fun d st => if (ownDict i ρ).isSome = true then eS (fk ρ st) fun k st => match ownDict i (dropFor M fr d ρ), rowOf k with
  | some ds, some r => if ds.length < sizeLine then .nx ((dropFor M fr d ρ).set i (some (rdict (dputL ds r d), true))) st else .stuck
  | _, _ => .stuck else .stuck := id rfl
@[simp] theorem rowOf_ii (a b : Int) : rowOf (.tuple [.int a, .int b]) = some [a, b] := id rfl
end
end Ev
end

section
set_option maxRecDepth 100000
set_option maxHeartbeats 400000
namespace Ev
open PySem PySem.Spec PyProof.Rows L2
open Enc (enc)
/-! ### repr of things -/
def okEl (d : PyData) : Bool := d.showable && (d.leavesShort 20 && (decide (d.depth ≤ 8) && decide (d.bulk ≤ 1000)))
theorem okEl_all : ∀ {xs : List PyData}, (∀ x ∈ xs, okEl x = true) → PyData.showableAll xs = true ∧ PyData.leavesShortAll 20 xs = true ∧ PyData.depthAll xs ≤ 8 ∧ PyData.bulkAll xs ≤ 1001 * xs.length
  | [], _ => ⟨rfl, rfl, Nat.zero_le _, Nat.le_refl _⟩
  | x :: xs, h => by
    obtain ⟨h1, h2, h3, h4⟩ := okEl_all (xs := xs) fun y hy => h y (List.mem_cons_of_mem _ hy)
    have hx := h x List.mem_cons_self
    unfold okEl at hx
    simp only [Bool.and_eq_true, decide_eq_true_eq] at hx
    obtain ⟨q1, q2, q3, q4⟩ := hx
    refine ⟨by rw [PyData.showableAll, q1, h1]; rfl, by rw [PyData.leavesShortAll, q2, h2]; rfl, by rw [PyData.depthAll]; omega, ?_⟩
    rw [PyData.bulkAll, List.length_cons]
    omega
theorem okQAll_mem {xs : List PyData} (h : ∀ x ∈ xs, okQ x = true) : okQAll xs = true := by
  induction xs with
  | nil => rfl
  | cons x xs ih => rw [okQAll, h x List.mem_cons_self, ih fun y hy => h y (List.mem_cons_of_mem _ hy)]; rfl
theorem plainAll_mem {xs : List PyData} (h : ∀ x ∈ xs, x.plain = true) : PyData.plainAll xs = true := by
  induction xs with
  | nil => rfl
  | cons x xs ih => rw [PyData.plainAll, h x List.mem_cons_self, ih fun y hy => h y (List.mem_cons_of_mem _ hy)]; rfl
theorem noDictAll_mem {xs : List PyData} (h : ∀ x ∈ xs, x.hasDict = false) : PyData.hasDictAll xs = false := by
  induction xs with
  | nil => rfl
  | cons x xs ih => rw [PyData.hasDictAll, h x List.mem_cons_self, ih fun y hy => h y (List.mem_cons_of_mem _ hy)]; rfl
theorem rq_tup {xs : List PyData} (h : ∀ x ∈ xs, okEl x = true) (hl : xs.length ≤ 100) (hq : (∀ x ∈ xs, okQ x = true) ∨ ∀ x ∈ xs, x.plain = true ∧ x.hasDict = false) : reprQ [.tuple xs] = some (.str (PyData.tuple xs).shown) := by
  obtain ⟨h1, h2, h3, h4⟩ := okEl_all h
  have hs : (PyData.tuple xs).shown.length ≤ sizeLine := by
    have := PyData.shown_le_bulk 20 (by decide) (.tuple xs) (by simpa only [PyData.leavesShort] using h2)
    have e : (PyData.tuple xs).bulk = PyData.bulkAll xs := by simp only [PyData.bulk]
    rw [e] at this
    rw [sizeL]
    omega
  have s1 : (PyData.tuple xs).showable = true := by simpa only [PyData.showable] using h1
  have d1 : (PyData.tuple xs).depth ≤ 9 := by
    have : (PyData.tuple xs).depth = PyData.depthAll xs + 1 := by simp only [PyData.depth]
    omega
  have key : okShQ (.tuple xs) = true ∨ okShow (.tuple xs) = true := by
    rcases hq with hq | hq
    · refine .inl ?_
      unfold okShQ
      have : okQ (.tuple xs) = true := by rw [okQ]; exact okQAll_mem hq
      rw [this, s1]
      simp only [Bool.and_self, Bool.true_and, Bool.and_eq_true, decide_eq_true_eq]
      exact ⟨by omega, hs⟩
    · refine .inr ?_
      unfold okShow
      have p : (PyData.tuple xs).plain = true := by rw [PyData.plain]; exact plainAll_mem fun x hx => (hq x hx).1
      have n : (PyData.tuple xs).hasDict = false := by rw [PyData.hasDict]; exact noDictAll_mem fun x hx => (hq x hx).2
      rw [p, n, s1]
      simp only [Bool.and_self, Bool.true_and, Bool.and_eq_true, decide_eq_true_eq, Bool.not_false]
      exact ⟨by omega, hs⟩
  exact if_pos key
theorem rq_lst {xs : List PyData} (h : ∀ x ∈ xs, okEl x = true) (hl : xs.length ≤ 100) (hq : ∀ x ∈ xs, x.plain = true ∧ x.hasDict = false) : reprQ [.list xs] = some (.str (PyData.list xs).shown) := by
  obtain ⟨h1, h2, h3, h4⟩ := okEl_all h
  have hs : (PyData.list xs).shown.length ≤ sizeLine := by
    have := PyData.shown_le_bulk 20 (by decide) (.list xs) (by simpa only [PyData.leavesShort] using h2)
    have e : (PyData.list xs).bulk = PyData.bulkAll xs := by simp only [PyData.bulk]
    rw [e] at this
    rw [sizeL]
    omega
  have s1 : (PyData.list xs).showable = true := by simpa only [PyData.showable] using h1
  have d1 : (PyData.list xs).depth ≤ 9 := by
    have : (PyData.list xs).depth = PyData.depthAll xs + 1 := by simp only [PyData.depth]
    omega
  have key : okShQ (.list xs) = true ∨ okShow (.list xs) = true := by
    refine .inr ?_
    unfold okShow
    have p : (PyData.list xs).plain = true := by rw [PyData.plain]; exact plainAll_mem fun x hx => (hq x hx).1
    have n : (PyData.list xs).hasDict = false := by rw [PyData.hasDict]; exact noDictAll_mem fun x hx => (hq x hx).2
    rw [p, n, s1]
    simp only [Bool.and_self, Bool.true_and, Bool.and_eq_true, decide_eq_true_eq, Bool.not_false]
    exact ⟨by omega, hs⟩
  exact if_pos key
theorem rq_bool (b : Bool) : reprQ [.bool b] = some (.str (PyData.bool b).shown) := by
  have : okShQ (.bool b) = true := by cases b <;> decide
  exact if_pos (Or.inl this)
theorem rq_none : reprQ [.none] = some (.str PyData.none.shown) := by
  have : okShQ .none = true := by decide
  unfold reprQ
  exact if_pos (Or.inl this)
theorem rq_d0 : reprQ [.dict []] = some (.str (PyData.dict []).shown) := by
  have : okShQ (.dict []) = true := by decide
  unfold reprQ
  exact if_pos (Or.inl this)
theorem rq_int {i : Int} (h : i.natAbs < 100000) : reprQ [.int i] = some (.str (PyData.int i).shown) := by
  have h2 : (PyData.int i).leavesShort 20 = true := by
    simp only [PyData.leavesShort, decide_eq_true_eq]
    have := PyData.shown_int_le2 (i := i) (by omega) (by omega)
    omega
  have hs : (PyData.int i).shown.length ≤ sizeLine := by
    have := PyData.shown_le_bulk 20 (by decide) (.int i) h2
    have e : (PyData.int i).bulk = 0 := by simp only [PyData.bulk]
    rw [e] at this
    rw [sizeL]
    omega
  have : okShQ (.int i) = true := by
    unfold okShQ
    have s1 : (PyData.int i).showable = true := by
      simp only [PyData.showable, decide_eq_true_eq]
      have : i.natAbs.log2 < 17 + 1 := by
        by_cases h0 : i.natAbs = 0
        · rw [h0]; decide
        · exact (Nat.log2_lt h0).mpr (by omega)
      omega
    have q : okQ (.int i) = true := rfl
    have d : (PyData.int i).depth = 0 := rfl
    rw [s1, q, d]
    simpa using hs
  exact if_pos (Or.inl this)
theorem okEl_int {i : Int} (h : i.natAbs < 100000) : okEl (.int i) = true := by
  unfold okEl
  have h2 : (PyData.int i).leavesShort 20 = true := by
    simp only [PyData.leavesShort, decide_eq_true_eq]
    have := PyData.shown_int_le2 (i := i) (by omega) (by omega)
    omega
  have s1 : (PyData.int i).showable = true := by
    simp only [PyData.showable, decide_eq_true_eq]
    have : i.natAbs.log2 < 17 + 1 := by
      by_cases h0 : i.natAbs = 0
      · rw [h0]; decide
      · exact (Nat.log2_lt h0).mpr (by omega)
    omega
  have d : (PyData.int i).depth = 0 := rfl
  have b : (PyData.int i).bulk = 0 := by simp only [PyData.bulk]
  rw [s1, h2, d, b]
  rfl
theorem okEl_tup {xs : List PyData} (h : ∀ x ∈ xs, okEl x = true ∧ x.depth ≤ 6 ∧ x.bulk ≤ 20) (hl : xs.length ≤ 40) : okEl (.tuple xs) = true := by
  obtain ⟨h1, h2, h3, h4⟩ := okEl_all fun x hx => (h x hx).1
  have e : (PyData.tuple xs).bulk = PyData.bulkAll xs := by simp only [PyData.bulk]
  have e2 : (PyData.tuple xs).depth = PyData.depthAll xs + 1 := by simp only [PyData.depth]
  have d6 : PyData.depthAll xs ≤ 6 := by
    clear h1 h2 h3 h4 e e2 hl
    induction xs with
    | nil => exact Nat.zero_le _
    | cons x xs ih =>
      rw [PyData.depthAll]
      have := (h x List.mem_cons_self).2.1
      have := ih fun y hy => h y (List.mem_cons_of_mem _ hy)
      omega
  have b6 : PyData.bulkAll xs ≤ 21 * xs.length := by
    clear h1 h2 h3 h4 e e2 d6 hl
    induction xs with
    | nil => exact Nat.le_refl _
    | cons x xs ih =>
      rw [PyData.bulkAll, List.length_cons]
      have := (h x List.mem_cons_self).2.2
      have := ih fun y hy => h y (List.mem_cons_of_mem _ hy)
      omega
  unfold okEl
  have s1 : (PyData.tuple xs).showable = true := by simpa only [PyData.showable] using h1
  have s2 : (PyData.tuple xs).leavesShort 20 = true := by simpa only [PyData.leavesShort] using h2
  rw [s1, s2]
  simp only [Bool.true_and, Bool.and_eq_true, decide_eq_true_eq]
  omega
@[simp] theorem neD_str (s : Str) : neD (.str s) (.str s) = some (.bool false) := by
  have : okEq (.str s) (.str s) = true := rfl
  rw [neD, if_pos this]
  have : PyData.eqv (.str s) (.str s) = true := by rw [PyData.eqv]; simp
  rw [this]
  rfl
section
variable {α : Type} [BEq α] [LawfulBEq α] [EncE α]
theorem okEq_l (h : Enc.dep α + 1 ≤ 64) (a b : List α) : okEq (.list (a.map enc)) (.list (b.map enc)) = true := by
  unfold okEq
  have h1 : (PyData.list (a.map enc)).plain = true := by rw [PyData.plain]; exact enc_plainAll a
  have h2 : (PyData.list (b.map enc)).plain = true := by rw [PyData.plain]; exact enc_plainAll b
  rw [h1, h2]
  have e1 : (PyData.list (a.map enc)).depth = PyData.depthAll (a.map enc) + 1 := by simp only [PyData.depth]
  have := enc_depthAll a
  rw [e1]
  simp only [Bool.and_self, Bool.true_and, decide_eq_true_eq]
  omega
theorem eqD_l (h : Enc.dep α + 1 ≤ 64) (a b : List α) : eqD (.list (a.map enc)) (.list (b.map enc)) = some (.bool (a == b)) := by
  unfold eqD
  rw [if_pos (okEq_l h a b)]
  have : PyData.eqv (.list (a.map enc)) (.list (b.map enc)) = PyData.eqvAll (a.map enc) (b.map enc) := by rw [PyData.eqv]
  rw [this, enc_eqvAll]
theorem neD_l (h : Enc.dep α + 1 ≤ 64) (a b : List α) : neD (.list (a.map enc)) (.list (b.map enc)) = some (.bool (!(a == b))) := by
  unfold neD
  rw [if_pos (okEq_l h a b)]
  have : PyData.eqv (.list (a.map enc)) (.list (b.map enc)) = PyData.eqvAll (a.map enc) (b.map enc) := by rw [PyData.eqv]
  rw [this, enc_eqvAll]
theorem neD_s (h : Enc.dep α + 1 ≤ 64) (l : List α) : neD (.tuple (l.map enc)) (.tuple (l.map enc)) = some (.bool false) := by
  rw [neD_t h, beq_self_eq_true]
  rfl
theorem neD_sl (h : Enc.dep α + 1 ≤ 64) (l : List α) : neD (.list (l.map enc)) (.list (l.map enc)) = some (.bool false) := by
  rw [neD_l h, beq_self_eq_true]
  rfl
theorem okEq_nilL (l : List α) : okEq (.list (l.map enc)) (.list []) = true := by
  unfold okEq
  have h1 : (PyData.list (l.map enc)).plain = true := by rw [PyData.plain]; exact enc_plainAll l
  have h2 : (PyData.list []).plain = true := rfl
  rw [h1, h2]
  have h3 : (PyData.list []).depth = 1 := rfl
  rw [h3]
  simp only [Bool.and_self, Bool.true_and, decide_eq_true_eq]
  omega
theorem eqD_nilL (l : List α) : eqD (.list (l.map enc)) (.list []) = some (.bool l.isEmpty) := by
  unfold eqD
  rw [if_pos (okEq_nilL l)]
  cases l <;> rfl
theorem neD_nilL (l : List α) : neD (.list (l.map enc)) (.list []) = some (.bool (!l.isEmpty)) := by
  unfold neD
  rw [if_pos (okEq_nilL l)]
  cases l <;> rfl
theorem okEq_nilT (l : List α) : okEq (.tuple (l.map enc)) (.tuple []) = true := by
  unfold okEq
  have h1 : (PyData.tuple (l.map enc)).plain = true := by rw [PyData.plain]; exact enc_plainAll l
  have h2 : (PyData.tuple []).plain = true := rfl
  rw [h1, h2]
  have h3 : (PyData.tuple []).depth = 1 := rfl
  rw [h3]
  simp only [Bool.and_self, Bool.true_and, decide_eq_true_eq]
  omega
theorem eqD_nilT (l : List α) : eqD (.tuple (l.map enc)) (.tuple []) = some (.bool l.isEmpty) := by
  unfold eqD
  rw [if_pos (okEq_nilT l)]
  cases l <;> rfl
theorem neD_nilT (l : List α) : neD (.tuple (l.map enc)) (.tuple []) = some (.bool (!l.isEmpty)) := by
  unfold neD
  rw [if_pos (okEq_nilT l)]
  cases l <;> rfl
end
theorem flat_len {γ δ : Type} (f : γ → List δ) (n : Nat) : ∀ xs : List γ, (∀ x ∈ xs, (f x).length ≤ n) → (xs.flatMap f).length ≤ xs.length * n
  | [], _ => by simp
  | x :: xs, h => by
    rw [List.flatMap_cons, List.length_append, List.length_cons, Nat.add_mul, Nat.one_mul]
    have h1 := h x List.mem_cons_self
    have h2 := flat_len f n xs fun y hy => h y (List.mem_cons_of_mem _ hy)
    omega
@[simp] theorem neD_ll0 : neD (.list []) (.list []) = some (.bool false) := neD_nilL ([] : List Nat)
@[simp] theorem eqD_ll0 : eqD (.list []) (.list []) = some (.bool true) := eqD_nilL ([] : List Nat)
@[simp] theorem neD_tt0 : neD (.tuple []) (.tuple []) = some (.bool false) := neD_nilT ([] : List Nat)
@[simp] theorem eqD_tt0 : eqD (.tuple []) (.tuple []) = some (.bool true) := eqD_nilT ([] : List Nat)
@[simp] theorem ixD_l0 {x : PyData} {xs : List PyData} : ixD (.list (x :: xs)) (.int 0) = some x := ixD_l (i := 0) rfl
@[simp] theorem ixD_l1 {x y : PyData} {xs : List PyData} : ixD (.list (x :: y :: xs)) (.int 1) = some y := ixD_l (i := 1) rfl
@[simp] theorem ixD_t0 {x : PyData} {xs : List PyData} : ixD (.tuple (x :: xs)) (.int 0) = some x := ixD_t (i := 0) rfl
@[simp] theorem ixD_t1 {x y : PyData} {xs : List PyData} : ixD (.tuple (x :: y :: xs)) (.int 1) = some y := ixD_t (i := 1) rfl
@[simp] theorem ixD_t2 {x y z : PyData} {xs : List PyData} : ixD (.tuple (x :: y :: z :: xs)) (.int 2) = some z := ixD_t (i := 2) rfl
theorem cut_mid (xs : List PyData) (a b : Nat) : cutL xs (some (a : Int)) (some (b : Int)) = (xs.take b).drop a := by
  unfold cutL
  rw [HT.sIx_nat, HT.sIx_nat]
  show List.take (min b xs.length - min a xs.length) (List.drop (min a xs.length) xs) = _
  rw [List.drop_take]
  by_cases h : a ≤ xs.length
  · rw [Nat.min_eq_left h]
    by_cases h2 : b ≤ xs.length
    · rw [Nat.min_eq_left h2]
    · rw [Nat.min_eq_right (by omega), List.take_of_length_le (by simp), List.take_of_length_le (by simp; omega)]
  · rw [show min a xs.length = xs.length by omega, List.drop_length, List.drop_eq_nil_of_le (by omega : xs.length ≤ a)]
    simp
@[simp] theorem cut_mid_t (xs : List PyData) (a b : Nat) : cutD (.tuple xs) (some (a : Int)) (some (b : Int)) = some (.tuple ((xs.take b).drop a)) := by
  show some (PyData.tuple (cutL _ _ _)) = _
  rw [cut_mid]
@[simp] theorem cut_mid_s (xs : List PyData) (a : Nat) : cutD (.tuple xs) (some (a : Int)) (some ((a : Int) + 1)) = some (.tuple ((xs.take (a + 1)).drop a)) := cut_mid_t xs a (a + 1)
@[simp] theorem cut_drop_s (xs : List PyData) (a : Nat) : cutD (.tuple xs) (some ((a : Int) + 1)) none = some (.tuple (xs.drop (a + 1))) := cut_drop_t xs (a + 1)
@[simp] theorem cut_take_s (xs : List PyData) (a : Nat) : cutD (.tuple xs) none (some ((a : Int) + 1)) = some (.tuple (xs.take (a + 1))) := cut_take_t xs (a + 1)
@[simp] theorem cut_tail1_t (xs : List PyData) : cutD (.tuple xs) (some 1) none = some (.tuple (xs.drop 1)) := cut_drop_t xs 1
@[simp] theorem ownL_0 {ds : List PyData} {ρ : EnvD} : ownL 0 (some (.list ds, true) :: ρ) = some ds := id rfl
@[simp] theorem ownL_s {n : Nat} {x : Slot} {ρ : EnvD} : ownL (n + 1) (x :: ρ) = ownL n ρ := id rfl
@[simp] theorem ap_sRem {i : Nat} {f : DE} {ρ : EnvD} {st : Store} : sRem i f ρ st = if (ownL i ρ).isSome = true then eS (f ρ st) fun d st => match ownL i ρ, intOf d with
  | some ds, some z => match asInts ds with
    | some ns => if z ∈ ns ∧ ns.length < 1000000 then .nx (ρ.set i (some (.list ((ns.eraseIdx (ns.idxOf z)).map .int), true))) st else .stuck
    | none => .stuck
  | _, _ => .stuck else .stuck := id rfl
@[simp] theorem ap_sAppPop {i j : Nat} {f : DE} {ρ : EnvD} {st : Store} : sAppPop i j f ρ st = if (ownL i ρ).isSome = true ∧ (ownL j ρ).isSome = true ∧ i ≠ j then eS (f ρ st) fun d st => match ownL j ρ with
  | some ds => match popAt ds d, ownL i ρ with
    | some (x, ds'), some es => if es.length < 1000000 ∧ ds.length < 1000000 then .nx ((ρ.set j (some (.list ds', true))).set i (some (.list (es ++ [x]), true))) st else .stuck
    | _, _ => .stuck
  | none => .stuck else .stuck := id rfl
theorem nodup_len : ∀ (n : Nat) {l : List Nat}, l.Nodup → (∀ x ∈ l, x < n) → l.length ≤ n
  | 0, l, h, hm => by
    cases l with
    | nil => exact Nat.le_refl _
    | cons x l => have := hm x List.mem_cons_self; omega
  | n + 1, l, h, hm => by
    by_cases hn : n ∈ l
    · have p := List.perm_cons_erase hn
      have h1 := nodup_len n (h.erase n) fun x hx => by
        have h2 := (h.mem_erase_iff).mp hx
        have := hm x h2.2
        have := h2.1
        omega
      have := p.length_eq
      rw [List.length_cons] at this
      omega
    · have := nodup_len n h fun x hx => by
        have := hm x hx
        have : x ≠ n := fun e => hn (e ▸ hx)
        omega
      omega
theorem sumD_n (l : List Nat) : sumD [.list (l.map enc)] = some (.int (l.sum : Nat)) := by
  refine (sumD_m l (fun (n : Nat) => (n : Int))).trans ?_
  congr 2
  induction l with
  | nil => rfl
  | cons a l ih => rw [List.map_cons, List.sum_cons, List.sum_cons, ih]; omega
theorem sum_counts (t : Nat) : ∀ l : List Nat, (∀ x ∈ l, x < t) → ((List.range t).map fun v => l.count v).sum = l.length
  | [], _ => by
    have : ((List.range t).map fun v => ([] : List Nat).count v) = List.replicate t 0 := by
      simp only [List.count_nil]
      rw [List.map_const', List.length_range]
    rw [this]
    simp
  | a :: l, h => by
    have ih := sum_counts t l fun x hx => h x (List.mem_cons_of_mem _ hx)
    have ha := h a List.mem_cons_self
    have key : ∀ n, ((List.range n).map fun v => (a :: l).count v).sum = ((List.range n).map fun v => l.count v).sum + if a < n then 1 else 0 := by
      intro n
      induction n with
      | zero => simp
      | succ n ih =>
        rw [List.range_succ, List.map_append, List.map_append, List.sum_append, List.sum_append, ih]
        simp only [List.map_cons, List.map_nil, List.sum_cons, List.sum_nil, List.count_cons, beq_iff_eq]
        by_cases h1 : a < n <;> by_cases h2 : a = n <;> by_cases h3 : a < n + 1 <;> simp [h1, h2, h3] <;> omega
    rw [key t, if_pos ha, ih, List.length_cons]
/-! ### while -/
theorem wh_t {α : Type} {c : DB} {b : DS} {R : SR → Prop} (I : α → EnvD → Store → Prop) (μ : α → Nat)
    (hs : ∀ a ρ st, I a ρ st → (c ρ st = .ok false st ∧ R (.nx ρ st)) ∨ (c ρ st = .ok true st ∧ match b ρ st with
      | .nx ρ2 st2 => ∃ a', μ a' < μ a ∧ I a' ρ2 st2
      | .ct ρ2 st2 => ∃ a', μ a' < μ a ∧ I a' ρ2 st2
      | .brk ρ2 st2 => R (.nx ρ2 st2)
      | r => R r)) : ∀ (n : Nat) (a : α) (ρ : EnvD) (st : Store), μ a < n → I a ρ st → R (whGo c b n ρ st) := by
  intro n
  induction n with
  | zero => intro a ρ st h; omega
  | succ n ih =>
    intro a ρ st h hi
    rcases hs a ρ st hi with ⟨h1, h2⟩ | ⟨h1, h2⟩
    · unfold whGo
      rw [h1]
      exact h2
    · unfold whGo
      rw [h1]
      show R (match b ρ st with
        | .nx ρ st => whGo c b n ρ st
        | .ct ρ st => whGo c b n ρ st
        | .brk ρ st => .nx ρ st
        | r => r)
      cases hb : b ρ st with
      | nx ρ2 st2 => rw [hb] at h2; obtain ⟨a', k, i⟩ := h2; exact ih a' _ _ (by omega) i
      | ct ρ2 st2 => rw [hb] at h2; obtain ⟨a', k, i⟩ := h2; exact ih a' _ _ (by omega) i
      | brk ρ2 st2 => rw [hb] at h2; exact h2
      | ret d f st2 => rw [hb] at h2; exact h2
      | exn x st2 => rw [hb] at h2; exact h2
      | stuck => rw [hb] at h2; exact h2
@[simp] theorem ap_sWh {n : Nat} {c : DB} {b : DS} {ρ : EnvD} {st : Store} : sWh n c b ρ st = whGo c b n ρ st := id rfl
end Ev
end

section
set_option maxRecDepth 100000
set_option maxHeartbeats 400000
namespace Ev
open PySem PySem.Spec PyProof.Rows L2
open Enc (enc)
/-! ### rows-dicts: keys rows of numbers, values typed -/
section
variable {α : Type} [BEq α] [LawfulBEq α] [EncE α]
def dicR (ks : List (List Nat × α)) : List (PyData × PyData) := ks.map fun p => (tE p.1, enc p.2)
theorem rowOf_nats (k : List Nat) : rowOf (tE k) = some (castR k) := by
  have := rowOf_row (castR k)
  rw [← enc_cast] at this
  exact this
theorem dget_r (ks : List (List Nat × α)) (k : List Nat) : dgetL (dicR ks) (castR k) = (ks.lookup k).map enc := by
  induction ks with
  | nil => rfl
  | cons x ks ih =>
    show (if rowOf (tE x.1) = some _ then _ else dgetL (dicR ks) _) = _
    rw [rowOf_nats]
    by_cases h : x.1 = k
    · rw [if_pos (by rw [h]), List.lookup_cons, h]
      simp
    · rw [if_neg (fun z => h (castR_inj (Option.some.inj z))), List.lookup_cons, beq_eq_false_iff_ne.mpr (fun z => h z.symm)]
      exact ih
def dputR (ks : List (List Nat × α)) (k : List Nat) (v : α) : List (List Nat × α) := match ks with
  | [] => [(k, v)]
  | x :: r => if x.1 = k then (x.1, v) :: r else x :: dputR r k v
theorem dput_r (ks : List (List Nat × α)) (k : List Nat) (v : α) : dputL (dicR ks) (castR k) (enc v) = dicR (dputR ks k v) := by
  induction ks with
  | nil =>
    show [(PyData.tuple ((castR k).map .int), enc v)] = [(tE k, enc v)]
    rw [← enc_cast]
    rfl
  | cons x ks ih =>
    show (if rowOf (tE x.1) = some _ then _ else (tE x.1, enc x.2) :: dputL (dicR ks) _ _) = _
    rw [rowOf_nats, dputR]
    by_cases h : x.1 = k
    · rw [if_pos (by rw [h]), if_pos h]
      rfl
    · rw [if_neg (fun z => h (castR_inj (Option.some.inj z))), if_neg h, ih]
      rfl
theorem dputR_get (ks : List (List Nat × α)) (k j : List Nat) (v : α) : (dputR ks k v).lookup j = if j = k then some v else ks.lookup j := by
  induction ks with
  | nil =>
    rw [dputR, List.lookup_cons]
    by_cases h : j = k
    · simp [h]
    · rw [if_neg h, beq_eq_false_iff_ne.mpr h]
  | cons x ks ih =>
    rw [dputR]
    by_cases h : x.1 = k
    · rw [if_pos h, List.lookup_cons, List.lookup_cons]
      by_cases h2 : j = k
      · simp [h2, h]
      · rw [if_neg h2, h, beq_eq_false_iff_ne.mpr h2]
    · rw [if_neg h, List.lookup_cons, List.lookup_cons, ih]
      by_cases h2 : j = k
      · subst h2
        rw [if_pos rfl, beq_eq_false_iff_ne.mpr (fun z => h z.symm), if_pos rfl]
      · simp only [if_neg h2]
theorem dputR_mem {ks : List (List Nat × α)} {k : List Nat} {v : α} {p : List Nat × α} (h : p ∈ dputR ks k v) : p ∈ ks ∨ p = (k, v) := by
  induction ks with
  | nil => rw [dputR, List.mem_singleton] at h; exact .inr h
  | cons x ks ih =>
    rw [dputR] at h
    by_cases hx : x.1 = k
    · rw [if_pos hx] at h
      rcases List.mem_cons.mp h with h | h
      · exact .inr (by rw [h, hx])
      · exact .inl (List.mem_cons_of_mem _ h)
    · rw [if_neg hx] at h
      rcases List.mem_cons.mp h with h | h
      · exact .inl (by rw [h]; exact List.mem_cons_self)
      · rcases ih h with h | h
        · exact .inl (List.mem_cons_of_mem _ h)
        · exact .inr h
theorem dputR_len (ks : List (List Nat × α)) (k : List Nat) (v : α) : (dputR ks k v).length ≤ ks.length + 1 := by
  induction ks with
  | nil => simp [dputR]
  | cons x ks ih =>
    rw [dputR]
    split
    · simp
    · simp; omega
theorem look_some {ks : List (List Nat × α)} {k : List Nat} (h : k ∈ ks.map (·.1)) : ∃ v, ks.lookup k = some v := by
  induction ks with
  | nil => cases h
  | cons x ks ih =>
    rw [List.lookup_cons]
    cases e : k == x.1 with
    | true => exact ⟨x.2, rfl⟩
    | false =>
      rcases List.mem_cons.mp h with h | h
      · rw [h] at e
        simp at e
      · exact ih h
@[simp] theorem keysD_r (ks : List (List Nat × α)) : keysD (rdict (dicR ks)) = some (ks.map fun p => tE p.1) := by
  show some ((dicR ks).map (·.1)) = _
  rw [dicR, List.map_map]
  rfl
@[simp] theorem rdOf_r (ks : List (List Nat × α)) : rdOf (rdict (dicR ks)) = some (dicR ks) := id rfl
theorem dix_r (ks : List (List Nat × α)) (k : List Nat) : dixD (rdict (dicR ks)) (tE k) = (ks.lookup k).map enc := by
  show ((rdOf _).bind fun ds => (rowOf (tE k)).bind (dgetL ds)) = _
  rw [rdOf_r, Option.bind_some, rowOf_nats, Option.bind_some, dget_r]
theorem dnotIn_r (ks : List (List Nat × α)) (k : List Nat) : dnotInD (tE k) (rdict (dicR ks)) = some (.bool (!(ks.lookup k).isSome)) := by
  show ((rdOf _).bind fun ds => (rowOf (tE k)).map fun r => PyData.bool (!(dgetL ds r).isSome)) = _
  rw [rdOf_r, Option.bind_some, rowOf_nats, Option.map_some, dget_r]
  cases ks.lookup k <;> rfl
end
section
variable {ρ : EnvD} {st : Store}
@[simp] theorem ownDict_0 {ds : List (PyData × PyData)} {ρ : EnvD} : ownDict 0 (some (rdict ds, true) :: ρ) = some ds := id rfl
@[simp] theorem ownDict_s {n : Nat} {x : Slot} {ρ : EnvD} : ownDict (n + 1) (x :: ρ) = ownDict n ρ := id rfl
@[simp] theorem ap_eD1 {fk fv : DE} : eD1 fk fv ρ st = (fk ρ st).bind fun k st => match rowOf k with
  | some _ => (fv ρ st).bind fun d st => if noL d = true then .ok (rdict [(k, d)]) st else .stuck
  | none => .stuck := id rfl
@[simp] theorem mutD_rd (ds : List (PyData × PyData)) : mutD (rdict ds) = true := id rfl
@[simp] theorem inner0_rd (ds : List (PyData × PyData)) : inner0 (rdict ds) = (noLk ds) := by
  show noLk ((.none, .int 7) :: ds) = _
  rfl
end
theorem noLk_r {α : Type} [BEq α] [LawfulBEq α] [EncE α] (ks : List (List Nat × α)) : noLk (dicR ks) = true := by
  show (dicR ks).all (fun p => noL p.2) = true
  rw [dicR, List.all_map, List.all_eq_true]
  intro p _
  exact Enc.noL p.2
/-! order of typed tuples -/
section
variable {α : Type} [BEq α] [LawfulBEq α] [EncO α]
theorem okCmp_enc (a b : α) (h : Enc.dep α ≤ 60) (hn : isNo (enc a) = false) : okCmp (enc a) (enc b) = true := by
  unfold okCmp
  have := Enc.depth a
  rw [EncO.al, hn, Enc.plain, Enc.plain]
  simp only [Bool.not_false, Bool.and_self, Bool.true_and, decide_eq_true_eq]
  omega
end
theorem ltB_pr (a b : Nat × List Nat) : ltB (enc a) (enc b) = some (.bool (EncO.lt a b)) := by
  have h := okCmp_enc a b (by decide) rfl
  have : ltB (enc a) (enc b) = if okCmp (enc a) (enc b) = true then some (.bool (W.dataLt (enc a) (enc b))) else none := rfl
  rw [this, if_pos h, EncO.dl]
theorem sort_nats (ns : List Nat) : sortedD [.list (ns.map enc)] = some (.list ((ns.mergeSort leO).map enc)) := by
  refine sort_t ns ?_
  unfold sortable
  rw [Bool.or_eq_true]
  refine .inr ?_
  rw [List.all_map, List.all_eq_true]
  intro x _
  rfl
theorem alikeL_n (ns : List Nat) : alikeL (ns.map enc) = true := by
  unfold alikeL
  have h1 : ((ns.map enc).all fun x => (ns.map enc).all fun y => W.alike x y) = true := by
    rw [List.all_map, List.all_eq_true]
    intro x _
    show (ns.map enc).all (fun y => W.alike (enc x) y) = true
    rw [List.all_map, List.all_eq_true]
    intro y _
    rfl
  have h2 : ((ns.map enc).all fun x => !isNo x) = true := by
    rw [List.all_map, List.all_eq_true]
    intro x _
    rfl
  have h3 := enc_plainAll ns
  have h4 : PyData.depthAll (ns.map enc) ≤ 0 := enc_depthAll ns
  rw [h1, h2, h3]
  simp only [Bool.and_self, Bool.true_and, decide_eq_true_eq]
  omega
theorem foldl_min_le : ∀ (l : List Int) (a : Int), l.foldl min a ≤ a ∧ (∀ x ∈ l, l.foldl min a ≤ x) ∧ (l.foldl min a = a ∨ l.foldl min a ∈ l)
  | [], a => ⟨Int.le_refl _, (fun x hx => by cases hx), .inl rfl⟩
  | b :: l, a => by
    obtain ⟨h1, h2, h3⟩ := foldl_min_le l (min a b)
    rw [List.foldl_cons]
    refine ⟨by omega, fun x hx => ?_, ?_⟩
    · rcases List.mem_cons.mp hx with rfl | hx
      · omega
      · exact h2 x hx
    · rcases h3 with h3 | h3
      · by_cases hab : a ≤ b
        · exact .inl (by omega)
        · exact .inr (by rw [h3, show min a b = b by omega]; exact List.mem_cons_self)
      · exact .inr (List.mem_cons_of_mem _ h3)
theorem foldl_max_le : ∀ (l : List Int) (a : Int), a ≤ l.foldl max a ∧ (∀ x ∈ l, x ≤ l.foldl max a) ∧ (l.foldl max a = a ∨ l.foldl max a ∈ l)
  | [], a => ⟨Int.le_refl _, (fun x hx => by cases hx), .inl rfl⟩
  | b :: l, a => by
    obtain ⟨h1, h2, h3⟩ := foldl_max_le l (max a b)
    rw [List.foldl_cons]
    refine ⟨by omega, fun x hx => ?_, ?_⟩
    · rcases List.mem_cons.mp hx with rfl | hx
      · omega
      · exact h2 x hx
    · rcases h3 with h3 | h3
      · by_cases hab : b ≤ a
        · exact .inl (by omega)
        · exact .inr (by rw [h3, show max a b = b by omega]; exact List.mem_cons_self)
      · exact .inr (List.mem_cons_of_mem _ h3)
theorem minS_nat {ns : List Nat} {m : Nat} (hm : m ∈ ns) (hle : ∀ x ∈ ns, m ≤ x) : minS (ns.map enc) = some (.int m) := by
  cases ns with
  | nil => cases hm
  | cons a l =>
    have h1 := alikeL_n (a :: l)
    have h2 : noLs ((a :: l).map enc) = true := noLs_map (a :: l)
    have e : (a :: l).map enc = enc a :: l.map enc := rfl
    rw [e] at h1 h2 ⊢
    show (if alikeL (enc a :: l.map enc) = true ∧ noLs (enc a :: l.map enc) = true then some (W.minD (enc a) (l.map enc)) else none) = _
    rw [if_pos ⟨h1, h2⟩]
    have e2 : l.map enc = (castR l).map PyData.int := by
      unfold castR
      rw [List.map_map]
      rfl
    rw [e2, enc_nat, W.minD_ints]
    obtain ⟨q1, q2, q3⟩ := foldl_min_le (castR l) (a : Int)
    congr 2
    have hm' : (m : Int) = a ∨ (m : Int) ∈ castR l := by
      rcases List.mem_cons.mp hm with rfl | h
      · exact .inl rfl
      · exact .inr (List.mem_map.mpr ⟨m, h, rfl⟩)
    have le1 : (castR l).foldl min (a : Int) ≤ m := by
      rcases hm' with h | h
      · rw [h]; exact q1
      · exact q2 _ h
    have le2 : (m : Int) ≤ (castR l).foldl min (a : Int) := by
      rcases q3 with h | h
      · rw [h]
        have := hle a List.mem_cons_self
        omega
      · obtain ⟨x, hx, ex⟩ := List.mem_map.mp h
        have := hle x (List.mem_cons_of_mem _ hx)
        rw [← ex]
        omega
    omega
theorem maxS_nat {ns : List Nat} {m : Nat} (hm : m ∈ ns) (hle : ∀ x ∈ ns, x ≤ m) : maxS (ns.map enc) = some (.int m) := by
  cases ns with
  | nil => cases hm
  | cons a l =>
    have h1 := alikeL_n (a :: l)
    have h2 : noLs ((a :: l).map enc) = true := noLs_map (a :: l)
    have e : (a :: l).map enc = enc a :: l.map enc := rfl
    rw [e] at h1 h2 ⊢
    show (if alikeL (enc a :: l.map enc) = true ∧ noLs (enc a :: l.map enc) = true then some (W.maxD (enc a) (l.map enc)) else none) = _
    rw [if_pos ⟨h1, h2⟩]
    have e2 : l.map enc = (castR l).map PyData.int := by
      unfold castR
      rw [List.map_map]
      rfl
    rw [e2, enc_nat, W.maxD_ints]
    obtain ⟨q1, q2, q3⟩ := foldl_max_le (castR l) (a : Int)
    congr 2
    have hm' : (m : Int) = a ∨ (m : Int) ∈ castR l := by
      rcases List.mem_cons.mp hm with rfl | h
      · exact .inl rfl
      · exact .inr (List.mem_map.mpr ⟨m, h, rfl⟩)
    have le1 : (m : Int) ≤ (castR l).foldl max (a : Int) := by
      rcases hm' with h | h
      · rw [h]; exact q1
      · exact q2 _ h
    have le2 : (castR l).foldl max (a : Int) ≤ m := by
      rcases q3 with h | h
      · rw [h]
        have := hle a List.mem_cons_self
        omega
      · obtain ⟨x, hx, ex⟩ := List.mem_map.mp h
        have := hle x (List.mem_cons_of_mem _ hx)
        rw [← ex]
        omega
    omega
theorem sortSet_natsT (ns : List Nat) (hl : ns.length < 64) : sortSetD (.tuple (ns.map enc)) = some (.list ((ns.eraseDups.mergeSort leZ).map enc)) := sortSet_nats ns hl
end Ev
end

section
set_option maxRecDepth 100000
set_option maxHeartbeats 0
namespace Row
open PySem PySem.Spec PyProof.Rows L2 Ev
open Enc (enc)
def top (i : Nat) : Stmt := PySem.Challenge.pw_lastgames_k79_whole_upsets_of_orders.main.body.getD i (.Pass ⟨0, 0, 0, 0⟩)
abbrev xn_GameFault : Nat := 0
abbrev xn_BadLeague : Nat := 1
abbrev xn_BadOrder : Nat := 2
abbrev xn_BadResults : Nat := 3
abbrev xn_NoLeague : Nat := 4
abbrev xn_League : Nat := 5
abbrev s_is_integer : Stmt := top 1
abbrev s_is_within : Stmt := top 2
abbrev s_are_below : Stmt := top 3
abbrev s_are_unlike : Stmt := top 4
abbrev s_is_order_of : Stmt := top 5
abbrev s_row_of : Stmt := top 6
abbrev s_is_pair_of : Stmt := top 16
abbrev s_League_init : Stmt := inClass (top 17) 0
abbrev s_check_league : Stmt := top 18
abbrev s_everybody : Stmt := top 19
abbrev s_is_side : Stmt := top 20
abbrev s_are_results : Stmt := top 21
abbrev s_check_results : Stmt := top 22
abbrev s_winner_of : Stmt := top 23
abbrev s_loser_of : Stmt := top 24
abbrev s_decided_of : Stmt := top 25
abbrev s_check_order : Stmt := top 27
abbrev s_upsets_of : Stmt := top 29
abbrev s_upsets : Stmt := top 30
abbrev s_losses_to : Stmt := top 31
abbrev s_best_orders : Stmt := top 32
abbrev s_best_of : Stmt := top 33
abbrev s_fewest_upsets : Stmt := top 34
abbrev s_best_order : Stmt := top 35
abbrev s_is_best_order : Stmt := top 36
abbrev s__law_hand : Stmt := top 38
abbrev s__law_draw : Stmt := top 39
abbrev s__law_any : Stmt := top 40
abbrev s__law_league : Stmt := top 41
abbrev s__law_orders : Stmt := top 42
abbrev s__law_upsets : Stmt := top 43
abbrev s__law_bent : Stmt := top 44
abbrev s__law_league_right : Stmt := top 45
abbrev s__law_more_right : Stmt := top 46
abbrev s__law_word : Stmt := top 47
abbrev s__law_refused_right : Stmt := top 48
abbrev s_law : Stmt := top 49
def exl : List Nat := [2, 3, 4]
structure Wd (P : Program) (w : World) (K : PySem.W.Frag) (mg : Str → Option Value) (base : Heap) (G : Gd) (xc : Nat → Addr) (T : List (Addr × Str)) (fdf : Nat → FuncData) (fI : Addr) (fdI : FuncData) (cc tt : Nat → Addr) : Prop where
  hK : G.K = K
  hP : G.P = P ∧ G.w = w
  lea : LeaOk K G.CL
  g_League : mg "League" = some (.ref G.CL)
  m_League : Mk K G.CL fI
  xo : ExOk K xc exl 0
  g_GameFault : mg "GameFault" = some (.ref (xc 0))
  d_League_init : FunD K "__init__" "League.__init__" (defArgs s_League_init) (defBody s_League_init) (defScope s_League_init) [] [] fI fdI
  free_ValueError : mg "ValueError" = none
  free_abs : mg "abs" = none
  free_all : mg "all" = none
  free_bool : mg "bool" = none
  free_enumerate : mg "enumerate" = none
  free_int : mg "int" = none
  free_isinstance : mg "isinstance" = none
  free_len : mg "len" = none
  free_list : mg "list" = none
  free_max : mg "max" = none
  free_min : mg "min" = none
  free_range : mg "range" = none
  free_repr : mg "repr" = none
  free_set : mg "set" = none
  free_sorted : mg "sorted" = none
  free_tuple : mg "tuple" = none
  free_zip : mg "zip" = none
  c_MOST_GAMES : ∃ t, mg "MOST_GAMES" = some (.int 24 t)
  c_MOST_TEAMS : ∃ t, mg "MOST_TEAMS" = some (.int 8 t)
  g_BadOrder : mg "BadOrder" = some (.ref (xc 2))
  x_BadOrder : PySem.W.excIn K (xc 2) [.type "ValueError", .type "Exception", .type "BaseException", .type "object"] "ValueError.__new__" = true
  k_BadOrder : PySem.W.keepIn K (.ref (xc 2)) = true
  s_BadOrder : PySem.W.subIn K (.ref (xc 2)) (.type "BaseException") = some true
  t_BadOrder : PySem.W.typeIn K (.ref (xc 2)) = some (.type "type")
  g_BadResults : mg "BadResults" = some (.ref (xc 3))
  x_BadResults : PySem.W.excIn K (xc 3) [.type "ValueError", .type "Exception", .type "BaseException", .type "object"] "ValueError.__new__" = true
  k_BadResults : PySem.W.keepIn K (.ref (xc 3)) = true
  s_BadResults : PySem.W.subIn K (.ref (xc 3)) (.type "BaseException") = some true
  t_BadResults : PySem.W.typeIn K (.ref (xc 3)) = some (.type "type")
  g_NoLeague : mg "NoLeague" = some (.ref (xc 4))
  x_NoLeague : PySem.W.excIn K (xc 4) [.type "ValueError", .type "Exception", .type "BaseException", .type "object"] "ValueError.__new__" = true
  k_NoLeague : PySem.W.keepIn K (.ref (xc 4)) = true
  s_NoLeague : PySem.W.subIn K (.ref (xc 4)) (.type "BaseException") = some true
  t_NoLeague : PySem.W.typeIn K (.ref (xc 4)) = some (.type "type")
  g_is_integer : mg "is_integer" = some (.ref (G.fa 0))
  d_is_integer : FunD K "is_integer" "is_integer" (defArgs s_is_integer) (defBody s_is_integer) (defScope s_is_integer) [] [] (G.fa 0) (fdf 0)
  g_is_within : mg "is_within" = some (.ref (G.fa 1))
  d_is_within : FunD K "is_within" "is_within" (defArgs s_is_within) (defBody s_is_within) (defScope s_is_within) [] [] (G.fa 1) (fdf 1)
  g_are_below : mg "are_below" = some (.ref (G.fa 2))
  d_are_below : FunD K "are_below" "are_below" (defArgs s_are_below) (defBody s_are_below) (defScope s_are_below) [] [] (G.fa 2) (fdf 2)
  g_are_unlike : mg "are_unlike" = some (.ref (G.fa 3))
  d_are_unlike : FunD K "are_unlike" "are_unlike" (defArgs s_are_unlike) (defBody s_are_unlike) (defScope s_are_unlike) [] [] (G.fa 3) (fdf 3)
  g_is_order_of : mg "is_order_of" = some (.ref (G.fa 4))
  d_is_order_of : FunD K "is_order_of" "is_order_of" (defArgs s_is_order_of) (defBody s_is_order_of) (defScope s_is_order_of) [] [] (G.fa 4) (fdf 4)
  g_row_of : mg "row_of" = some (.ref (G.fa 5))
  d_row_of : FunD K "row_of" "row_of" (defArgs s_row_of) (defBody s_row_of) (defScope s_row_of) [] [] (G.fa 5) (fdf 5)
  g_is_pair_of : mg "is_pair_of" = some (.ref (G.fa 6))
  d_is_pair_of : FunD K "is_pair_of" "is_pair_of" (defArgs s_is_pair_of) (defBody s_is_pair_of) (defScope s_is_pair_of) [] [] (G.fa 6) (fdf 6)
  g_check_league : mg "check_league" = some (.ref (G.fa 7))
  d_check_league : FunD K "check_league" "check_league" (defArgs s_check_league) (defBody s_check_league) (defScope s_check_league) [] [] (G.fa 7) (fdf 7)
  g_everybody : mg "everybody" = some (.ref (G.fa 8))
  d_everybody : FunD K "everybody" "everybody" (defArgs s_everybody) (defBody s_everybody) (defScope s_everybody) [] [] (G.fa 8) (fdf 8)
  g_is_side : mg "is_side" = some (.ref (G.fa 9))
  d_is_side : FunD K "is_side" "is_side" (defArgs s_is_side) (defBody s_is_side) (defScope s_is_side) [] [] (G.fa 9) (fdf 9)
  g_are_results : mg "are_results" = some (.ref (G.fa 10))
  d_are_results : FunD K "are_results" "are_results" (defArgs s_are_results) (defBody s_are_results) (defScope s_are_results) [] [] (G.fa 10) (fdf 10)
  g_check_results : mg "check_results" = some (.ref (G.fa 11))
  d_check_results : FunD K "check_results" "check_results" (defArgs s_check_results) (defBody s_check_results) (defScope s_check_results) [] [] (G.fa 11) (fdf 11)
  g_winner_of : mg "winner_of" = some (.ref (G.fa 12))
  d_winner_of : FunD K "winner_of" "winner_of" (defArgs s_winner_of) (defBody s_winner_of) (defScope s_winner_of) [] [] (G.fa 12) (fdf 12)
  g_loser_of : mg "loser_of" = some (.ref (G.fa 13))
  d_loser_of : FunD K "loser_of" "loser_of" (defArgs s_loser_of) (defBody s_loser_of) (defScope s_loser_of) [] [] (G.fa 13) (fdf 13)
  g_decided_of : mg "decided_of" = some (.ref (G.fa 14))
  d_decided_of : FunD K "decided_of" "decided_of" (defArgs s_decided_of) (defBody s_decided_of) (defScope s_decided_of) [] [] (G.fa 14) (fdf 14)
  g_check_order : mg "check_order" = some (.ref (G.fa 15))
  d_check_order : FunD K "check_order" "check_order" (defArgs s_check_order) (defBody s_check_order) (defScope s_check_order) [] [] (G.fa 15) (fdf 15)
  g_upsets_of : mg "upsets_of" = some (.ref (G.fa 16))
  d_upsets_of : FunD K "upsets_of" "upsets_of" (defArgs s_upsets_of) (defBody s_upsets_of) (defScope s_upsets_of) [] [] (G.fa 16) (fdf 16)
  g_upsets : mg "upsets" = some (.ref (G.fa 17))
  d_upsets : FunD K "upsets" "upsets" (defArgs s_upsets) (defBody s_upsets) (defScope s_upsets) [] [] (G.fa 17) (fdf 17)
  g_losses_to : mg "losses_to" = some (.ref (G.fa 18))
  d_losses_to : FunD K "losses_to" "losses_to" (defArgs s_losses_to) (defBody s_losses_to) (defScope s_losses_to) [] [] (G.fa 18) (fdf 18)
  g_best_orders : mg "best_orders" = some (.ref (G.fa 19))
  d_best_orders : FunD K "best_orders" "best_orders" (defArgs s_best_orders) (defBody s_best_orders) (defScope s_best_orders) [] [] (G.fa 19) (fdf 19)
  g_best_of : mg "best_of" = some (.ref (G.fa 20))
  d_best_of : FunD K "best_of" "best_of" (defArgs s_best_of) (defBody s_best_of) (defScope s_best_of) [] [] (G.fa 20) (fdf 20)
  g_fewest_upsets : mg "fewest_upsets" = some (.ref (G.fa 21))
  d_fewest_upsets : FunD K "fewest_upsets" "fewest_upsets" (defArgs s_fewest_upsets) (defBody s_fewest_upsets) (defScope s_fewest_upsets) [] [] (G.fa 21) (fdf 21)
  g_best_order : mg "best_order" = some (.ref (G.fa 22))
  d_best_order : FunD K "best_order" "best_order" (defArgs s_best_order) (defBody s_best_order) (defScope s_best_order) [] [] (G.fa 22) (fdf 22)
  g_is_best_order : mg "is_best_order" = some (.ref (G.fa 23))
  d_is_best_order : FunD K "is_best_order" "is_best_order" (defArgs s_is_best_order) (defBody s_is_best_order) (defScope s_is_best_order) [] [] (G.fa 23) (fdf 23)
  g__law_hand : mg "_law_hand" = some (.ref (G.fa 24))
  d__law_hand : FunD K "_law_hand" "_law_hand" (defArgs s__law_hand) (defBody s__law_hand) (defScope s__law_hand) [] [] (G.fa 24) (fdf 24)
  g__law_draw : mg "_law_draw" = some (.ref (G.fa 25))
  d__law_draw : FunD K "_law_draw" "_law_draw" (defArgs s__law_draw) (defBody s__law_draw) (defScope s__law_draw) [] [] (G.fa 25) (fdf 25)
  g__law_any : mg "_law_any" = some (.ref (G.fa 26))
  d__law_any : FunD K "_law_any" "_law_any" (defArgs s__law_any) (defBody s__law_any) (defScope s__law_any) [] [] (G.fa 26) (fdf 26)
  g__law_league : mg "_law_league" = some (.ref (G.fa 27))
  d__law_league : FunD K "_law_league" "_law_league" (defArgs s__law_league) (defBody s__law_league) (defScope s__law_league) [] [] (G.fa 27) (fdf 27)
  g__law_orders : mg "_law_orders" = some (.ref (G.fa 28))
  d__law_orders : FunD K "_law_orders" "_law_orders" (defArgs s__law_orders) (defBody s__law_orders) (defScope s__law_orders) [] [] (G.fa 28) (fdf 28)
  g__law_upsets : mg "_law_upsets" = some (.ref (G.fa 29))
  d__law_upsets : FunD K "_law_upsets" "_law_upsets" (defArgs s__law_upsets) (defBody s__law_upsets) (defScope s__law_upsets) [] [] (G.fa 29) (fdf 29)
  g__law_bent : mg "_law_bent" = some (.ref (G.fa 30))
  d__law_bent : FunD K "_law_bent" "_law_bent" (defArgs s__law_bent) (defBody s__law_bent) (defScope s__law_bent) [] [] (G.fa 30) (fdf 30)
  g__law_word : mg "_law_word" = some (.ref (G.fa 33))
  d__law_word : FunD K "_law_word" "_law_word" (defArgs s__law_word) (defBody s__law_word) (defScope s__law_word) [] [] (G.fa 33) (fdf 33)
  g__law_more_right : mg "_law_more_right" = some (.ref (G.fa 32))
  d__law_more_right : FunD K "_law_more_right" "_law_more_right" (defArgs s__law_more_right) (defBody s__law_more_right) (defScope s__law_more_right) [] [] (G.fa 32) (fdf 32)
  cc__law_league_right : CodeAt K (G.fa 31) (cc 31)
  tb__law_league_right : LamX.TabB base mg (cc 31) (tt 31)
  tm__law_league_right : (tt 31, (("_law_league_right" : Str) ++ ".<locals>." ++ "<lambda>")) ∈ T
  tu__law_league_right : ∀ p ∈ T, p.1 = tt 31 → p.2 = (("_law_league_right" : Str) ++ ".<locals>." ++ "<lambda>")
  g__law_league_right : mg "_law_league_right" = some (.ref (G.fa 31))
  d__law_league_right : FunD K "_law_league_right" "_law_league_right" (defArgs s__law_league_right) (defBody s__law_league_right) (defScope s__law_league_right) [] [] (G.fa 31) (fdf 31)
  cc__law_refused_right : CodeAt K (G.fa 34) (cc 34)
  tb__law_refused_right : LamX.TabB base mg (cc 34) (tt 34)
  tm__law_refused_right : (tt 34, (("_law_refused_right" : Str) ++ ".<locals>." ++ "<lambda>")) ∈ T
  tu__law_refused_right : ∀ p ∈ T, p.1 = tt 34 → p.2 = (("_law_refused_right" : Str) ++ ".<locals>." ++ "<lambda>")
  g__law_refused_right : mg "_law_refused_right" = some (.ref (G.fa 34))
  d__law_refused_right : FunD K "_law_refused_right" "_law_refused_right" (defArgs s__law_refused_right) (defBody s__law_refused_right) (defScope s__law_refused_right) [] [] (G.fa 34) (fdf 34)
  g_law : mg "law" = some (.ref (G.fa 35))
  d_law : FunD K "law" "law" (defArgs s_law) (defBody s_law) (defScope s_law) [] [] (G.fa 35) (fdf 35)
section
variable {P : Program} {w : World} {K : PySem.W.Frag} {mg : Str → Option Value} {base : Heap} {G : Gd} {xc : Nat → Addr} {T : List (Addr × Str)} {fdf : Nat → FuncData} {fI : Addr} {fdI : FuncData} {cc tt : Nat → Addr}
theorem un65 {k : Nat} {A : Around} (h : Room k A) : A.units + 65 < cLine := by
  have := h.un
  omega
theorem un66 {k : Nat} {A : Around} (h : Room k A) : A.units + 66 < cLine := by
  have := h.un
  omega
theorem un67 {k : Nat} {A : Around} (h : Room k A) : A.units + 67 < cLine := by
  have := h.un
  omega
theorem un80 {k : Nat} {A : Around} (h : Room k A) : A.units + 80 < cLine := by
  have := h.un
  omega
theorem us {A : Around} {env : Env} {v : Option Value} {n k : Nat} (h : Room k A) (hn : n ≤ 100) : ((A.deeper env).mark v).units + n < cLine := by
  have := h.un
  show A.units + 3 + n < cLine
  omega
def fuel : Nat := 1000000
theorem Wd.b_League_init (W : Wd P w K mg base G xc T fdf fI fdI cc tt) : Binds K fdI ["self", "teams", "games"] [] := W.d_League_init.bindsN fun _ _ _ _ _ _ us hl => match us, hl with | [_, _, _], _ => rfl
theorem Wd.k_is_integer (W : Wd P w K mg base G xc T fdf fI fdI cc tt) : PySem.W.keepIn K (.ref (G.fa 0)) = true := W.d_is_integer.kp
theorem Wd.b_is_integer (W : Wd P w K mg base G xc T fdf fI fdI cc tt) : Binds K (fdf 0) ["thing"] [] := W.d_is_integer.bindsN fun _ _ _ _ _ _ us hl => match us, hl with | [_], _ => rfl
theorem Wd.k_is_within (W : Wd P w K mg base G xc T fdf fI fdI cc tt) : PySem.W.keepIn K (.ref (G.fa 1)) = true := W.d_is_within.kp
theorem Wd.b_is_within (W : Wd P w K mg base G xc T fdf fI fdI cc tt) : Binds K (fdf 1) ["thing", "low", "high"] [] := W.d_is_within.bindsN fun _ _ _ _ _ _ us hl => match us, hl with | [_, _, _], _ => rfl
theorem Wd.k_are_below (W : Wd P w K mg base G xc T fdf fI fdI cc tt) : PySem.W.keepIn K (.ref (G.fa 2)) = true := W.d_are_below.kp
theorem Wd.b_are_below (W : Wd P w K mg base G xc T fdf fI fdI cc tt) : Binds K (fdf 2) ["thing", "many"] [] := W.d_are_below.bindsN fun _ _ _ _ _ _ us hl => match us, hl with | [_, _], _ => rfl
theorem Wd.k_are_unlike (W : Wd P w K mg base G xc T fdf fI fdI cc tt) : PySem.W.keepIn K (.ref (G.fa 3)) = true := W.d_are_unlike.kp
theorem Wd.b_are_unlike (W : Wd P w K mg base G xc T fdf fI fdI cc tt) : Binds K (fdf 3) ["thing", "many"] [] := W.d_are_unlike.bindsN fun _ _ _ _ _ _ us hl => match us, hl with | [_, _], _ => rfl
theorem Wd.k_is_order_of (W : Wd P w K mg base G xc T fdf fI fdI cc tt) : PySem.W.keepIn K (.ref (G.fa 4)) = true := W.d_is_order_of.kp
theorem Wd.b_is_order_of (W : Wd P w K mg base G xc T fdf fI fdI cc tt) : Binds K (fdf 4) ["thing", "many"] [] := W.d_is_order_of.bindsN fun _ _ _ _ _ _ us hl => match us, hl with | [_, _], _ => rfl
theorem Wd.k_row_of (W : Wd P w K mg base G xc T fdf fI fdI cc tt) : PySem.W.keepIn K (.ref (G.fa 5)) = true := W.d_row_of.kp
theorem Wd.b_row_of (W : Wd P w K mg base G xc T fdf fI fdI cc tt) : Binds K (fdf 5) ["some"] [] := W.d_row_of.bindsN fun _ _ _ _ _ _ us hl => match us, hl with | [_], _ => rfl
theorem Wd.k_is_pair_of (W : Wd P w K mg base G xc T fdf fI fdI cc tt) : PySem.W.keepIn K (.ref (G.fa 6)) = true := W.d_is_pair_of.kp
theorem Wd.b_is_pair_of (W : Wd P w K mg base G xc T fdf fI fdI cc tt) : Binds K (fdf 6) ["thing", "teams"] [] := W.d_is_pair_of.bindsN fun _ _ _ _ _ _ us hl => match us, hl with | [_, _], _ => rfl
theorem Wd.k_check_league (W : Wd P w K mg base G xc T fdf fI fdI cc tt) : PySem.W.keepIn K (.ref (G.fa 7)) = true := W.d_check_league.kp
theorem Wd.b_check_league (W : Wd P w K mg base G xc T fdf fI fdI cc tt) : Binds K (fdf 7) ["league"] [] := W.d_check_league.bindsN fun _ _ _ _ _ _ us hl => match us, hl with | [_], _ => rfl
theorem Wd.k_everybody (W : Wd P w K mg base G xc T fdf fI fdI cc tt) : PySem.W.keepIn K (.ref (G.fa 8)) = true := W.d_everybody.kp
theorem Wd.b_everybody (W : Wd P w K mg base G xc T fdf fI fdI cc tt) : Binds K (fdf 8) ["league"] [] := W.d_everybody.bindsN fun _ _ _ _ _ _ us hl => match us, hl with | [_], _ => rfl
theorem Wd.k_is_side (W : Wd P w K mg base G xc T fdf fI fdI cc tt) : PySem.W.keepIn K (.ref (G.fa 9)) = true := W.d_is_side.kp
theorem Wd.b_is_side (W : Wd P w K mg base G xc T fdf fI fdI cc tt) : Binds K (fdf 9) ["thing"] [] := W.d_is_side.bindsN fun _ _ _ _ _ _ us hl => match us, hl with | [_], _ => rfl
theorem Wd.k_are_results (W : Wd P w K mg base G xc T fdf fI fdI cc tt) : PySem.W.keepIn K (.ref (G.fa 10)) = true := W.d_are_results.kp
theorem Wd.b_are_results (W : Wd P w K mg base G xc T fdf fI fdI cc tt) : Binds K (fdf 10) ["league", "thing"] [] := W.d_are_results.bindsN fun _ _ _ _ _ _ us hl => match us, hl with | [_, _], _ => rfl
theorem Wd.k_check_results (W : Wd P w K mg base G xc T fdf fI fdI cc tt) : PySem.W.keepIn K (.ref (G.fa 11)) = true := W.d_check_results.kp
theorem Wd.b_check_results (W : Wd P w K mg base G xc T fdf fI fdI cc tt) : Binds K (fdf 11) ["league", "results"] [] := W.d_check_results.bindsN fun _ _ _ _ _ _ us hl => match us, hl with | [_, _], _ => rfl
theorem Wd.k_winner_of (W : Wd P w K mg base G xc T fdf fI fdI cc tt) : PySem.W.keepIn K (.ref (G.fa 12)) = true := W.d_winner_of.kp
theorem Wd.b_winner_of (W : Wd P w K mg base G xc T fdf fI fdI cc tt) : Binds K (fdf 12) ["league", "results", "game"] [] := W.d_winner_of.bindsN fun _ _ _ _ _ _ us hl => match us, hl with | [_, _, _], _ => rfl
theorem Wd.k_loser_of (W : Wd P w K mg base G xc T fdf fI fdI cc tt) : PySem.W.keepIn K (.ref (G.fa 13)) = true := W.d_loser_of.kp
theorem Wd.b_loser_of (W : Wd P w K mg base G xc T fdf fI fdI cc tt) : Binds K (fdf 13) ["league", "results", "game"] [] := W.d_loser_of.bindsN fun _ _ _ _ _ _ us hl => match us, hl with | [_, _, _], _ => rfl
theorem Wd.k_decided_of (W : Wd P w K mg base G xc T fdf fI fdI cc tt) : PySem.W.keepIn K (.ref (G.fa 14)) = true := W.d_decided_of.kp
theorem Wd.b_decided_of (W : Wd P w K mg base G xc T fdf fI fdI cc tt) : Binds K (fdf 14) ["results"] [] := W.d_decided_of.bindsN fun _ _ _ _ _ _ us hl => match us, hl with | [_], _ => rfl
theorem Wd.k_check_order (W : Wd P w K mg base G xc T fdf fI fdI cc tt) : PySem.W.keepIn K (.ref (G.fa 15)) = true := W.d_check_order.kp
theorem Wd.b_check_order (W : Wd P w K mg base G xc T fdf fI fdI cc tt) : Binds K (fdf 15) ["league", "order"] [] := W.d_check_order.bindsN fun _ _ _ _ _ _ us hl => match us, hl with | [_, _], _ => rfl
theorem Wd.k_upsets_of (W : Wd P w K mg base G xc T fdf fI fdI cc tt) : PySem.W.keepIn K (.ref (G.fa 16)) = true := W.d_upsets_of.kp
theorem Wd.b_upsets_of (W : Wd P w K mg base G xc T fdf fI fdI cc tt) : Binds K (fdf 16) ["league", "results", "order"] [] := W.d_upsets_of.bindsN fun _ _ _ _ _ _ us hl => match us, hl with | [_, _, _], _ => rfl
theorem Wd.k_upsets (W : Wd P w K mg base G xc T fdf fI fdI cc tt) : PySem.W.keepIn K (.ref (G.fa 17)) = true := W.d_upsets.kp
theorem Wd.b_upsets (W : Wd P w K mg base G xc T fdf fI fdI cc tt) : Binds K (fdf 17) ["league", "results", "order"] [] := W.d_upsets.bindsN fun _ _ _ _ _ _ us hl => match us, hl with | [_, _, _], _ => rfl
theorem Wd.k_losses_to (W : Wd P w K mg base G xc T fdf fI fdI cc tt) : PySem.W.keepIn K (.ref (G.fa 18)) = true := W.d_losses_to.kp
theorem Wd.b_losses_to (W : Wd P w K mg base G xc T fdf fI fdI cc tt) : Binds K (fdf 18) ["league", "results", "team", "ahead"] [] := W.d_losses_to.bindsN fun _ _ _ _ _ _ us hl => match us, hl with | [_, _, _, _], _ => rfl
theorem Wd.k_best_orders (W : Wd P w K mg base G xc T fdf fI fdI cc tt) : PySem.W.keepIn K (.ref (G.fa 19)) = true := W.d_best_orders.kp
theorem Wd.b_best_orders (W : Wd P w K mg base G xc T fdf fI fdI cc tt) : Binds K (fdf 19) ["league", "results"] [] := W.d_best_orders.bindsN fun _ _ _ _ _ _ us hl => match us, hl with | [_, _], _ => rfl
theorem Wd.k_best_of (W : Wd P w K mg base G xc T fdf fI fdI cc tt) : PySem.W.keepIn K (.ref (G.fa 20)) = true := W.d_best_of.kp
theorem Wd.b_best_of (W : Wd P w K mg base G xc T fdf fI fdI cc tt) : Binds K (fdf 20) ["league", "results"] [] := W.d_best_of.bindsN fun _ _ _ _ _ _ us hl => match us, hl with | [_, _], _ => rfl
theorem Wd.k_fewest_upsets (W : Wd P w K mg base G xc T fdf fI fdI cc tt) : PySem.W.keepIn K (.ref (G.fa 21)) = true := W.d_fewest_upsets.kp
theorem Wd.b_fewest_upsets (W : Wd P w K mg base G xc T fdf fI fdI cc tt) : Binds K (fdf 21) ["league", "results"] [] := W.d_fewest_upsets.bindsN fun _ _ _ _ _ _ us hl => match us, hl with | [_, _], _ => rfl
theorem Wd.k_best_order (W : Wd P w K mg base G xc T fdf fI fdI cc tt) : PySem.W.keepIn K (.ref (G.fa 22)) = true := W.d_best_order.kp
theorem Wd.b_best_order (W : Wd P w K mg base G xc T fdf fI fdI cc tt) : Binds K (fdf 22) ["league", "results"] [] := W.d_best_order.bindsN fun _ _ _ _ _ _ us hl => match us, hl with | [_, _], _ => rfl
theorem Wd.k_is_best_order (W : Wd P w K mg base G xc T fdf fI fdI cc tt) : PySem.W.keepIn K (.ref (G.fa 23)) = true := W.d_is_best_order.kp
theorem Wd.b_is_best_order (W : Wd P w K mg base G xc T fdf fI fdI cc tt) : Binds K (fdf 23) ["league", "results", "thing"] [] := W.d_is_best_order.bindsN fun _ _ _ _ _ _ us hl => match us, hl with | [_, _, _], _ => rfl
theorem Wd.k__law_hand (W : Wd P w K mg base G xc T fdf fI fdI cc tt) : PySem.W.keepIn K (.ref (G.fa 24)) = true := W.d__law_hand.kp
theorem Wd.b__law_hand (W : Wd P w K mg base G xc T fdf fI fdI cc tt) : Binds K (fdf 24) ["script"] [] := W.d__law_hand.bindsN fun _ _ _ _ _ _ us hl => match us, hl with | [_], _ => rfl
theorem Wd.k__law_draw (W : Wd P w K mg base G xc T fdf fI fdI cc tt) : PySem.W.keepIn K (.ref (G.fa 25)) = true := W.d__law_draw.kp
theorem Wd.b__law_draw (W : Wd P w K mg base G xc T fdf fI fdI cc tt) : Binds K (fdf 25) ["hand", "many"] [] := W.d__law_draw.bindsN fun _ _ _ _ _ _ us hl => match us, hl with | [_, _], _ => rfl
theorem Wd.k__law_any (W : Wd P w K mg base G xc T fdf fI fdI cc tt) : PySem.W.keepIn K (.ref (G.fa 26)) = true := W.d__law_any.kp
theorem Wd.b__law_any (W : Wd P w K mg base G xc T fdf fI fdI cc tt) : Binds K (fdf 26) ["hand", "some"] [] := W.d__law_any.bindsN fun _ _ _ _ _ _ us hl => match us, hl with | [_, _], _ => rfl
theorem Wd.k__law_league (W : Wd P w K mg base G xc T fdf fI fdI cc tt) : PySem.W.keepIn K (.ref (G.fa 27)) = true := W.d__law_league.kp
theorem Wd.b__law_league (W : Wd P w K mg base G xc T fdf fI fdI cc tt) : Binds K (fdf 27) ["hand", "most", "share"] [] := W.d__law_league.bindsN fun _ _ _ _ _ _ us hl => match us, hl with | [_, _, _], _ => rfl
theorem Wd.k__law_orders (W : Wd P w K mg base G xc T fdf fI fdI cc tt) : PySem.W.keepIn K (.ref (G.fa 28)) = true := W.d__law_orders.kp
theorem Wd.b__law_orders (W : Wd P w K mg base G xc T fdf fI fdI cc tt) : Binds K (fdf 28) ["many"] [] := W.d__law_orders.bindsN fun _ _ _ _ _ _ us hl => match us, hl with | [_], _ => rfl
theorem Wd.k__law_upsets (W : Wd P w K mg base G xc T fdf fI fdI cc tt) : PySem.W.keepIn K (.ref (G.fa 29)) = true := W.d__law_upsets.kp
theorem Wd.b__law_upsets (W : Wd P w K mg base G xc T fdf fI fdI cc tt) : Binds K (fdf 29) ["games", "results", "line"] [] := W.d__law_upsets.bindsN fun _ _ _ _ _ _ us hl => match us, hl with | [_, _, _], _ => rfl
theorem Wd.k__law_bent (W : Wd P w K mg base G xc T fdf fI fdI cc tt) : PySem.W.keepIn K (.ref (G.fa 30)) = true := W.d__law_bent.kp
theorem Wd.b__law_bent (W : Wd P w K mg base G xc T fdf fI fdI cc tt) : Binds K (fdf 30) ["hand", "line"] [] := W.d__law_bent.bindsN fun _ _ _ _ _ _ us hl => match us, hl with | [_, _], _ => rfl
theorem Wd.k__law_word (W : Wd P w K mg base G xc T fdf fI fdI cc tt) : PySem.W.keepIn K (.ref (G.fa 33)) = true := W.d__law_word.kp
theorem Wd.b__law_word (W : Wd P w K mg base G xc T fdf fI fdI cc tt) : Binds K (fdf 33) ["call"] [] := W.d__law_word.bindsN fun _ _ _ _ _ _ us hl => match us, hl with | [_], _ => rfl
theorem Wd.k__law_more_right (W : Wd P w K mg base G xc T fdf fI fdI cc tt) : PySem.W.keepIn K (.ref (G.fa 32)) = true := W.d__law_more_right.kp
theorem Wd.b__law_more_right (W : Wd P w K mg base G xc T fdf fI fdI cc tt) : Binds K (fdf 32) ["hand", "league", "results", "fewest"] [] := W.d__law_more_right.bindsN fun _ _ _ _ _ _ us hl => match us, hl with | [_, _, _, _], _ => rfl
theorem Wd.k__law_league_right (W : Wd P w K mg base G xc T fdf fI fdI cc tt) : PySem.W.keepIn K (.ref (G.fa 31)) = true := W.d__law_league_right.kp
theorem Wd.b__law_league_right (W : Wd P w K mg base G xc T fdf fI fdI cc tt) : Binds K (fdf 31) ["hand", "teams", "games", "results"] [] := W.d__law_league_right.bindsN fun _ _ _ _ _ _ us hl => match us, hl with | [_, _, _, _], _ => rfl
theorem Wd.k__law_refused_right (W : Wd P w K mg base G xc T fdf fI fdI cc tt) : PySem.W.keepIn K (.ref (G.fa 34)) = true := W.d__law_refused_right.kp
theorem Wd.b__law_refused_right (W : Wd P w K mg base G xc T fdf fI fdI cc tt) : Binds K (fdf 34) ["hand", "league", "results"] [] := W.d__law_refused_right.bindsN fun _ _ _ _ _ _ us hl => match us, hl with | [_, _, _], _ => rfl
theorem Wd.k_law (W : Wd P w K mg base G xc T fdf fI fdI cc tt) : PySem.W.keepIn K (.ref (G.fa 35)) = true := W.d_law.kp
theorem Wd.b_law (W : Wd P w K mg base G xc T fdf fI fdI cc tt) : Binds K (fdf 35) ["script"] [] := W.d_law.bindsN fun _ _ _ _ _ _ us hl => match us, hl with | [_], _ => rfl
def N_is_integer : List Str := ["thing"]
def m_is_integer : DF := defD 1 1 false
  (sRet false (eAnd (eUn (isaD "int") (eVar 0)) (eNot (eUn (isaD "bool") (eVar 0)))))
theorem sc_is_integer : FnScope N_is_integer ["thing"] (defScope s_is_integer) := ⟨rfl, rfl, rfl, by decide +kernel, rfl, by decide +kernel, by decide +kernel⟩
theorem ok_is_integer (W : Wd P w K mg base G xc T fdf fI fdI cc tt) : FnOk P w K mg base (L2.CX P w) 1 (G.fa 0) (fdf 0) ["thing"] (spD G xc T 1 false m_is_integer) :=
  okD W.d_is_integer sc_is_integer rfl (by decide) fun cdv A outer s H E L Z hr => by
  have nd := sc_is_integer.nd
  exact (pss_oneD (ps_retD (pe_andD (pe_isaD (n := "int") W.hK W.lea rfl W.free_isinstance (pe_varD (i := 0) rfl (by first | exact .inl rfl | exact .inr (.inl rfl) | exact .inr (.inr rfl))) (pe_bltn (v := .ty "int") rfl W.free_int boot_int rfl) (.ty "int") (by simp)) (pe_oneD (pe_notD (pe_isaD (n := "bool") W.hK W.lea rfl W.free_isinstance (pe_varD (i := 0) rfl (by first | exact .inl rfl | exact .inr (.inl rfl) | exact .inr (.inr rfl))) (pe_bltn (v := .ty "bool") rfl W.free_bool boot_bool rfl) (.ty "bool") (by simp)))))))
def N_is_within : List Str := ["thing", "low", "high"]
def m_is_within : DF := defD 3 3 false
  (sRet false (eAnd (eCall m_is_integer (eCons (eVar 0) eNil)) (eChain leB leB (eVar 1) (eVar 0) (eVar 2))))
theorem sc_is_within : FnScope N_is_within ["thing", "low", "high"] (defScope s_is_within) := ⟨rfl, rfl, rfl, by decide +kernel, rfl, by decide +kernel, by decide +kernel⟩
theorem ok_is_within (W : Wd P w K mg base G xc T fdf fI fdI cc tt) : FnOk P w K mg base (L2.CX P w) 2 (G.fa 1) (fdf 1) ["thing", "low", "high"] (spD G xc T 3 false m_is_within) :=
  okD W.d_is_within sc_is_within rfl (by decide) fun cdv A outer s H E L Z hr => by
  have nd := sc_is_within.nd
  exact (pss_oneD (ps_retD (pe_andD (pe_callD (ok_is_integer W) (hr.mono (by decide)) rfl W.g_is_integer W.k_is_integer W.b_is_integer (passes_call (takes_of rfl rfl rfl rfl) fun _ _ _ _ h => h) rfl rfl rfl defD_len (pa_consD (pe_varD (i := 0) rfl (by first | exact .inl rfl | exact .inr (.inl rfl) | exact .inr (.inr rfl))) pa_nilD)) (pe_oneD (pe_chainD (op_leB W.hK hr.units) (op_leB W.hK hr.units) (boolB (.inr (.inl rfl))) (boolB (.inr (.inl rfl))) (pe_varD (i := 1) rfl (by first | exact .inl rfl | exact .inr (.inl rfl) | exact .inr (.inr rfl))) (pe_varD (i := 0) rfl (by first | exact .inl rfl | exact .inr (.inl rfl) | exact .inr (.inr rfl))) (pe_varD (i := 2) rfl (by first | exact .inl rfl | exact .inr (.inl rfl) | exact .inr (.inr rfl))))))))
def c1_are_below : DE := (eLc (iSeq (eVar 0)) [2] (gN 2) (bdLast cYes (eCall m_is_within (eCons (eVar 2) (eCons (eC (.int 0)) (eCons (eOp subD (eVar 1) (eC (.int 1))) eNil))))))
def N_are_below : List Str := ["thing", "many", "one"]
def m_are_below : DF := defD 3 2 false
  (sRet false (eAnd (eUn (isaD "tuple") (eVar 0)) (eArgs allB (eCons c1_are_below eNil))))
theorem sc_are_below : FnScope N_are_below ["thing", "many"] (defScope s_are_below) := ⟨rfl, rfl, rfl, by decide +kernel, rfl, by decide +kernel, by decide +kernel⟩
theorem ok_are_below (W : Wd P w K mg base G xc T fdf fI fdI cc tt) : FnOk P w K mg base (L2.CX P w) 3 (G.fa 2) (fdf 2) ["thing", "many"] (spD G xc T 2 false m_are_below) :=
  okD W.d_are_below sc_are_below rfl (by decide) fun cdv A outer s H E L Z hr => by
  have nd := sc_are_below.nd
  exact (pss_oneD (ps_retD (pe_andD (pe_isaD (n := "tuple") W.hK W.lea rfl W.free_isinstance (pe_varD (i := 0) rfl (by first | exact .inl rfl | exact .inr (.inl rfl) | exact .inr (.inr rfl))) (pe_bltn (v := .ty "tuple") rfl W.free_tuple boot_tuple rfl) (.ty "tuple") (by simp)) (pe_oneD (pe_callBD (call_allB W.hK rfl) rfl W.free_all boot_all (pa_consD (pe_lcD (own := [(("one" : Str), 2)]) rfl nd (pi_seqD (pe_varD (i := 0) rfl (by first | exact .inl rfl | exact .inr (.inl rfl) | exact .inr (.inr rfl))) W.hK) (blkOk_by (by kernel_rfl)) (by decide) (fun Z _ _ _ _ _ => (pg_nameD (i := 2) nd rfl (by first | exact .inl rfl | exact .inr rfl) (by first | exact .inl rfl | exact .inr rfl))) (fun Z _ _ _ _ _ => pts_nilD) (fun Z _ _ _ _ _ => (pe_callD (ok_is_within W) (hr.mono (by decide)) rfl W.g_is_within W.k_is_within W.b_is_within passL rfl rfl rfl defD_len (pa_consD (pe_varD (i := 2) rfl (by first | exact .inl rfl | exact .inr (.inl rfl) | exact .inr (.inr rfl))) (pa_consD pe_intD (pa_consD (pe_opD op_subD (pe_varD (i := 1) rfl (by first | exact .inl rfl | exact .inr (.inl rfl) | exact .inr (.inr rfl))) pe_intD) pa_nilD)))))) pa_nilD))))))
def N_are_unlike : List Str := ["thing", "many"]
def m_are_unlike : DF := defD 2 2 false
  (sRet false (eAnd (eCall m_are_below (eCons (eVar 0) (eCons (eVar 1) eNil))) (eOp eqD (eUn lenSetD (eVar 0)) (eArgs lenD (eCons (eVar 0) eNil)))))
theorem sc_are_unlike : FnScope N_are_unlike ["thing", "many"] (defScope s_are_unlike) := ⟨rfl, rfl, rfl, by decide +kernel, rfl, by decide +kernel, by decide +kernel⟩
theorem ok_are_unlike (W : Wd P w K mg base G xc T fdf fI fdI cc tt) : FnOk P w K mg base (L2.CX P w) 4 (G.fa 3) (fdf 3) ["thing", "many"] (spD G xc T 2 false m_are_unlike) :=
  okD W.d_are_unlike sc_are_unlike rfl (by decide) fun cdv A outer s H E L Z hr => by
  have nd := sc_are_unlike.nd
  exact (pss_oneD (ps_retD (pe_andD (pe_callD (ok_are_below W) (hr.mono (by decide)) rfl W.g_are_below W.k_are_below W.b_are_below (passes_call (takes_of rfl rfl rfl rfl) fun _ _ _ _ h => h) rfl rfl rfl defD_len (pa_consD (pe_varD (i := 0) rfl (by first | exact .inl rfl | exact .inr (.inl rfl) | exact .inr (.inr rfl))) (pa_consD (pe_varD (i := 1) rfl (by first | exact .inl rfl | exact .inr (.inl rfl) | exact .inr (.inr rfl))) pa_nilD))) (pe_oneD (pe_cmpD (op_eqDD W.hK hr.units) (pe_lenSetD W.hK rfl (un80 hr) rfl W.free_len rfl W.free_set (pe_varD (i := 0) rfl (by first | exact .inl rfl | exact .inr (.inl rfl) | exact .inr (.inr rfl)))) (pe_callBD (call_lenD' W.hK) rfl W.free_len boot_len (pa_consD (pe_varD (i := 0) rfl (by first | exact .inl rfl | exact .inr (.inl rfl) | exact .inr (.inr rfl))) pa_nilD)))))))
def N_is_order_of : List Str := ["thing", "many"]
def m_is_order_of : DF := defD 2 2 false
  (sRet false (eAnd (eCall m_are_unlike (eCons (eVar 0) (eCons (eVar 1) eNil))) (eOp eqD (eArgs lenD (eCons (eVar 0) eNil)) (eVar 1))))
theorem sc_is_order_of : FnScope N_is_order_of ["thing", "many"] (defScope s_is_order_of) := ⟨rfl, rfl, rfl, by decide +kernel, rfl, by decide +kernel, by decide +kernel⟩
theorem ok_is_order_of (W : Wd P w K mg base G xc T fdf fI fdI cc tt) : FnOk P w K mg base (L2.CX P w) 5 (G.fa 4) (fdf 4) ["thing", "many"] (spD G xc T 2 false m_is_order_of) :=
  okD W.d_is_order_of sc_is_order_of rfl (by decide) fun cdv A outer s H E L Z hr => by
  have nd := sc_is_order_of.nd
  exact (pss_oneD (ps_retD (pe_andD (pe_callD (ok_are_unlike W) (hr.mono (by decide)) rfl W.g_are_unlike W.k_are_unlike W.b_are_unlike (passes_call (takes_of rfl rfl rfl rfl) fun _ _ _ _ h => h) rfl rfl rfl defD_len (pa_consD (pe_varD (i := 0) rfl (by first | exact .inl rfl | exact .inr (.inl rfl) | exact .inr (.inr rfl))) (pa_consD (pe_varD (i := 1) rfl (by first | exact .inl rfl | exact .inr (.inl rfl) | exact .inr (.inr rfl))) pa_nilD))) (pe_oneD (pe_cmpD (op_eqDD W.hK hr.units) (pe_callBD (call_lenD' W.hK) rfl W.free_len boot_len (pa_consD (pe_varD (i := 0) rfl (by first | exact .inl rfl | exact .inr (.inl rfl) | exact .inr (.inr rfl))) pa_nilD)) (pe_varD (i := 1) rfl (by first | exact .inl rfl | exact .inr (.inl rfl) | exact .inr (.inr rfl))))))))
def N_row_of : List Str := ["some"]
def m_row_of : DF := defD 1 1 false
  (sRet false (eArgs tupleD (eCons (eUn sortSetD (eVar 0)) eNil)))
theorem sc_row_of : FnScope N_row_of ["some"] (defScope s_row_of) := ⟨rfl, rfl, rfl, by decide +kernel, rfl, by decide +kernel, by decide +kernel⟩
theorem ok_row_of (W : Wd P w K mg base G xc T fdf fI fdI cc tt) : FnOk P w K mg base (L2.CX P w) 1 (G.fa 5) (fdf 5) ["some"] (spD G xc T 1 false m_row_of) :=
  okD W.d_row_of sc_row_of rfl (by decide) fun cdv A outer s H E L Z hr => by
  have nd := sc_row_of.nd
  exact (pss_oneD (ps_retD (pe_callTyD (call_tupleD W.hK) rfl W.free_tuple boot_tuple (pa_consD (pe_sortSetD W.hK rfl (un80 hr) rfl W.free_sorted rfl W.free_set (pe_varD (i := 0) rfl (by first | exact .inl rfl | exact .inr (.inl rfl) | exact .inr (.inr rfl)))) pa_nilD))))
def c1_is_pair_of : DE := (eLc (iSeq (eVar 0)) [2] (gN 2) (bdLast cYes (eCall m_is_within (eCons (eVar 2) (eCons (eC (.int 0)) (eCons (eOp subD (eVar 1) (eC (.int 1))) eNil))))))
def N_is_pair_of : List Str := ["thing", "teams", "team"]
def m_is_pair_of : DF := defD 3 2 false
  (sSeq (sIf (bOr (bNot (eB (eUn (isaD "tuple") (eVar 0)))) (eB (eOp neD (eArgs lenD (eCons (eVar 0) eNil)) (eC (.int 2)))))
    (sRet false (eC (.bool false)))
    sNext)
  (sRet false (eAnd (eArgs allB (eCons c1_is_pair_of eNil)) (eOp ltB (eOp ixD (eVar 0) (eC (.int 0))) (eOp ixD (eVar 0) (eC (.int 1)))))))
theorem sc_is_pair_of : FnScope N_is_pair_of ["thing", "teams"] (defScope s_is_pair_of) := ⟨rfl, rfl, rfl, by decide +kernel, rfl, by decide +kernel, by decide +kernel⟩
theorem ok_is_pair_of (W : Wd P w K mg base G xc T fdf fI fdI cc tt) : FnOk P w K mg base (L2.CX P w) 3 (G.fa 6) (fdf 6) ["thing", "teams"] (spD G xc T 2 false m_is_pair_of) :=
  okD W.d_is_pair_of sc_is_pair_of rfl (by decide) fun cdv A outer s H E L Z hr => by
  have nd := sc_is_pair_of.nd
  exact (pss_consD (ps_ifD (PW.pt (pw_orD (pt_notD (pt_valD (pe_isaD (n := "tuple") W.hK W.lea rfl W.free_isinstance (pe_varD (i := 0) rfl (by first | exact .inl rfl | exact .inr (.inl rfl) | exact .inr (.inr rfl))) (pe_bltn (v := .ty "tuple") rfl W.free_tuple boot_tuple rfl) (.ty "tuple") (by simp)))) (pw_or1D (pt_cmpD (op_neDD W.hK hr.units) (pe_callBD (call_lenD' W.hK) rfl W.free_len boot_len (pa_consD (pe_varD (i := 0) rfl (by first | exact .inl rfl | exact .inr (.inl rfl) | exact .inr (.inr rfl))) pa_nilD)) pe_intD))))
    (pss_oneD (ps_retD pe_boolD))
    pss_nilD)
  (pss_oneD (ps_retD (pe_andD (pe_callBD (call_allB W.hK rfl) rfl W.free_all boot_all (pa_consD (pe_lcD (own := [(("team" : Str), 2)]) rfl nd (pi_seqD (pe_varD (i := 0) rfl (by first | exact .inl rfl | exact .inr (.inl rfl) | exact .inr (.inr rfl))) W.hK) (blkOk_by (by kernel_rfl)) (by decide) (fun Z _ _ _ _ _ => (pg_nameD (i := 2) nd rfl (by first | exact .inl rfl | exact .inr rfl) (by first | exact .inl rfl | exact .inr rfl))) (fun Z _ _ _ _ _ => pts_nilD) (fun Z _ _ _ _ _ => (pe_callD (ok_is_within W) (hr.mono (by decide)) rfl W.g_is_within W.k_is_within W.b_is_within passL rfl rfl rfl defD_len (pa_consD (pe_varD (i := 2) rfl (by first | exact .inl rfl | exact .inr (.inl rfl) | exact .inr (.inr rfl))) (pa_consD pe_intD (pa_consD (pe_opD op_subD (pe_varD (i := 1) rfl (by first | exact .inl rfl | exact .inr (.inl rfl) | exact .inr (.inr rfl))) pe_intD) pa_nilD)))))) pa_nilD)) (pe_oneD (pe_cmpD (op_ltB W.hK hr.units) (pe_ixD (ix_D W.hK) (pe_varD (i := 0) rfl (by first | exact .inl rfl | exact .inr (.inl rfl) | exact .inr (.inr rfl))) pe_intD (fun _ _ => rfl)) (pe_ixD (ix_D W.hK) (pe_varD (i := 0) rfl (by first | exact .inl rfl | exact .inr (.inl rfl) | exact .inr (.inr rfl))) pe_intD (fun _ _ => rfl))))))))
def N_check_league : List Str := ["league"]
def m_check_league : DF := defD 1 1 false
  (sIf (bNot (eB (eUn (isaD "League") (eVar 0))))
    (sRaise xn_NoLeague)
    sNext)
theorem sc_check_league : FnScope N_check_league ["league"] (defScope s_check_league) := ⟨rfl, rfl, rfl, by decide +kernel, rfl, by decide +kernel, by decide +kernel⟩
theorem ok_check_league (W : Wd P w K mg base G xc T fdf fI fdI cc tt) : FnOk P w K mg base (L2.CX P w) 1 (G.fa 7) (fdf 7) ["league"] (spD G xc T 1 false m_check_league) :=
  okD W.d_check_league sc_check_league rfl (by decide) fun cdv A outer s H E L Z hr => by
  have nd := sc_check_league.nd
  exact (pss_oneD (ps_ifD (pt_notD (pt_valD (pe_isaD (n := "League") W.hK W.lea rfl W.free_isinstance (pe_varD (i := 0) rfl (by first | exact .inl rfl | exact .inr (.inl rfl) | exact .inr (.inr rfl))) (pe_glob (v := .ref G.CL) rfl W.g_League rfl) (.own _) (by simp))))
    (pss_oneD (ps_raiseD (c := 4) rfl (takes_of rfl rfl rfl rfl) (pmk_bare PySem.F.excBase_ValueError W.x_NoLeague W.g_NoLeague W.k_NoLeague (raises_own W.s_NoLeague W.t_NoLeague) rfl)))
    pss_nilD))
def N_everybody : List Str := ["league"]
def m_everybody : DF := defD 1 1 false
  (sRet true (eArgs tupR1 (eCons (eUn (fldD ("teams" : Str)) (eVar 0)) eNil)))
theorem sc_everybody : FnScope N_everybody ["league"] (defScope s_everybody) := ⟨rfl, rfl, rfl, by decide +kernel, rfl, by decide +kernel, by decide +kernel⟩
theorem ok_everybody (W : Wd P w K mg base G xc T fdf fI fdI cc tt) : FnOk P w K mg base (L2.CX P w) 1 (G.fa 8) (fdf 8) ["league"] (spD G xc T 1 false m_everybody) :=
  okD W.d_everybody sc_everybody rfl (by decide) fun cdv A outer s H E L Z hr => by
  have nd := sc_everybody.nd
  exact (pss_oneD (ps_retD (pe_tupR1D rfl rfl W.free_tuple rfl W.free_range (pe_fldD W.hK W.lea (pe_varD (i := 0) rfl (by first | exact .inl rfl | exact .inr (.inl rfl) | exact .inr (.inr rfl)))))))
def N_is_side : List Str := ["thing"]
def m_is_side : DF := defD 1 1 false
  (sRet false (eCall m_is_within (eCons (eVar 0) (eCons (eC (.int 0)) (eCons (eC (.int 1)) eNil)))))
theorem sc_is_side : FnScope N_is_side ["thing"] (defScope s_is_side) := ⟨rfl, rfl, rfl, by decide +kernel, rfl, by decide +kernel, by decide +kernel⟩
theorem ok_is_side (W : Wd P w K mg base G xc T fdf fI fdI cc tt) : FnOk P w K mg base (L2.CX P w) 3 (G.fa 9) (fdf 9) ["thing"] (spD G xc T 1 false m_is_side) :=
  okD W.d_is_side sc_is_side rfl (by decide) fun cdv A outer s H E L Z hr => by
  have nd := sc_is_side.nd
  exact (pss_oneD (ps_retD (pe_callD (ok_is_within W) (hr.mono (by decide)) rfl W.g_is_within W.k_is_within W.b_is_within (passes_call (takes_of rfl rfl rfl rfl) fun _ _ _ _ h => h) rfl rfl rfl defD_len (pa_consD (pe_varD (i := 0) rfl (by first | exact .inl rfl | exact .inr (.inl rfl) | exact .inr (.inr rfl))) (pa_consD pe_intD (pa_consD pe_intD pa_nilD))))))
def c1_are_results : DE := (eLc (iSeq (eVar 1)) [2] (gN 2) (bdLast cYes (eOr (eOp isD (eVar 2) (eC .none)) (eCall m_is_side (eCons (eVar 2) eNil)))))
def N_are_results : List Str := ["league", "thing", "side"]
def m_are_results : DF := defD 3 2 false
  (sSeq (sIf (bOr (bNot (eB (eUn (isaD "tuple") (eVar 1)))) (eB (eOp neD (eArgs lenD (eCons (eVar 1) eNil)) (eArgs lenD (eCons (eUn (fldD ("games" : Str)) (eVar 0)) eNil)))))
    (sRet false (eC (.bool false)))
    sNext)
  (sRet false (eArgs allB (eCons c1_are_results eNil))))
theorem sc_are_results : FnScope N_are_results ["league", "thing"] (defScope s_are_results) := ⟨rfl, rfl, rfl, by decide +kernel, rfl, by decide +kernel, by decide +kernel⟩
theorem ok_are_results (W : Wd P w K mg base G xc T fdf fI fdI cc tt) : FnOk P w K mg base (L2.CX P w) 4 (G.fa 10) (fdf 10) ["league", "thing"] (spD G xc T 2 false m_are_results) :=
  okD W.d_are_results sc_are_results rfl (by decide) fun cdv A outer s H E L Z hr => by
  have nd := sc_are_results.nd
  exact (pss_consD (ps_ifD (PW.pt (pw_orD (pt_notD (pt_valD (pe_isaD (n := "tuple") W.hK W.lea rfl W.free_isinstance (pe_varD (i := 1) rfl (by first | exact .inl rfl | exact .inr (.inl rfl) | exact .inr (.inr rfl))) (pe_bltn (v := .ty "tuple") rfl W.free_tuple boot_tuple rfl) (.ty "tuple") (by simp)))) (pw_or1D (pt_cmpD (op_neDD W.hK hr.units) (pe_callBD (call_lenD' W.hK) rfl W.free_len boot_len (pa_consD (pe_varD (i := 1) rfl (by first | exact .inl rfl | exact .inr (.inl rfl) | exact .inr (.inr rfl))) pa_nilD)) (pe_callBD (call_lenD' W.hK) rfl W.free_len boot_len (pa_consD (pe_fldD W.hK W.lea (pe_varD (i := 0) rfl (by first | exact .inl rfl | exact .inr (.inl rfl) | exact .inr (.inr rfl)))) pa_nilD))))))
    (pss_oneD (ps_retD pe_boolD))
    pss_nilD)
  (pss_oneD (ps_retD (pe_callBD (call_allB W.hK rfl) rfl W.free_all boot_all (pa_consD (pe_lcD (own := [(("side" : Str), 2)]) rfl nd (pi_seqD (pe_varD (i := 1) rfl (by first | exact .inl rfl | exact .inr (.inl rfl) | exact .inr (.inr rfl))) W.hK) (blkOk_by (by kernel_rfl)) (by decide) (fun Z _ _ _ _ _ => (pg_nameD (i := 2) nd rfl (by first | exact .inl rfl | exact .inr rfl) (by first | exact .inl rfl | exact .inr rfl))) (fun Z _ _ _ _ _ => pts_nilD) (fun Z _ _ _ _ _ => (pe_orD (pe_cmpD op_isD (pe_varD (i := 2) rfl (by first | exact .inl rfl | exact .inr (.inl rfl) | exact .inr (.inr rfl))) pe_noneD) (pe_oneD (pe_callD (ok_is_side W) (hr.mono (by decide)) rfl W.g_is_side W.k_is_side W.b_is_side passL rfl rfl rfl defD_len (pa_consD (pe_varD (i := 2) rfl (by first | exact .inl rfl | exact .inr (.inl rfl) | exact .inr (.inr rfl))) pa_nilD)))))) pa_nilD)))))
def N_check_results : List Str := ["league", "results"]
def m_check_results : DF := defD 2 2 false
  (sSeq (sDrop (eCall m_check_league (eCons (eVar 0) eNil)))
  (sIf (bNot (eB (eCall m_are_results (eCons (eVar 0) (eCons (eVar 1) eNil)))))
    (sRaise xn_BadResults)
    sNext))
theorem sc_check_results : FnScope N_check_results ["league", "results"] (defScope s_check_results) := ⟨rfl, rfl, rfl, by decide +kernel, rfl, by decide +kernel, by decide +kernel⟩
theorem ok_check_results (W : Wd P w K mg base G xc T fdf fI fdI cc tt) : FnOk P w K mg base (L2.CX P w) 5 (G.fa 11) (fdf 11) ["league", "results"] (spD G xc T 2 false m_check_results) :=
  okD W.d_check_results sc_check_results rfl (by decide) fun cdv A outer s H E L Z hr => by
  have nd := sc_check_results.nd
  exact (pss_consD (ps_exprD (pe_callD (ok_check_league W) (hr.mono (by decide)) rfl W.g_check_league W.k_check_league W.b_check_league (passes_call (takes_of rfl rfl rfl rfl) fun _ _ _ _ h => h) rfl rfl rfl defD_len (pa_consD (pe_varD (i := 0) rfl (by first | exact .inl rfl | exact .inr (.inl rfl) | exact .inr (.inr rfl))) pa_nilD)))
  (pss_oneD (ps_ifD (pt_notD (pt_valD (pe_callD (ok_are_results W) (hr.mono (by decide)) rfl W.g_are_results W.k_are_results W.b_are_results (passes_call (takes_of rfl rfl rfl rfl) fun _ _ _ _ h => h) rfl rfl rfl defD_len (pa_consD (pe_varD (i := 0) rfl (by first | exact .inl rfl | exact .inr (.inl rfl) | exact .inr (.inr rfl))) (pa_consD (pe_varD (i := 1) rfl (by first | exact .inl rfl | exact .inr (.inl rfl) | exact .inr (.inr rfl))) pa_nilD)))))
    (pss_oneD (ps_raiseD (c := 3) rfl (takes_of rfl rfl rfl rfl) (pmk_bare PySem.F.excBase_ValueError W.x_BadResults W.g_BadResults W.k_BadResults (raises_own W.s_BadResults W.t_BadResults) rfl)))
    pss_nilD)))
def N_winner_of : List Str := ["league", "results", "game"]
def m_winner_of : DF := defD 3 3 false
  (sRet false (eOp ixD (eOp ixD (eUn (fldD ("games" : Str)) (eVar 0)) (eVar 2)) (eOp ixD (eVar 1) (eVar 2))))
theorem sc_winner_of : FnScope N_winner_of ["league", "results", "game"] (defScope s_winner_of) := ⟨rfl, rfl, rfl, by decide +kernel, rfl, by decide +kernel, by decide +kernel⟩
theorem ok_winner_of (W : Wd P w K mg base G xc T fdf fI fdI cc tt) : FnOk P w K mg base (L2.CX P w) 1 (G.fa 12) (fdf 12) ["league", "results", "game"] (spD G xc T 3 false m_winner_of) :=
  okD W.d_winner_of sc_winner_of rfl (by decide) fun cdv A outer s H E L Z hr => by
  have nd := sc_winner_of.nd
  exact (pss_oneD (ps_retD (pe_ixD (ix_D W.hK) (pe_ixD (ix_D W.hK) (pe_fldD W.hK W.lea (pe_varD (i := 0) rfl (by first | exact .inl rfl | exact .inr (.inl rfl) | exact .inr (.inr rfl)))) (pe_varD (i := 2) rfl (by first | exact .inl rfl | exact .inr (.inl rfl) | exact .inr (.inr rfl))) (fun _ _ => rfl)) (pe_ixD (ix_D W.hK) (pe_varD (i := 1) rfl (by first | exact .inl rfl | exact .inr (.inl rfl) | exact .inr (.inr rfl))) (pe_varD (i := 2) rfl (by first | exact .inl rfl | exact .inr (.inl rfl) | exact .inr (.inr rfl))) (fun _ _ => rfl)) (fun _ _ => rfl))))
def N_loser_of : List Str := ["league", "results", "game"]
def m_loser_of : DF := defD 3 3 false
  (sRet false (eOp ixD (eOp ixD (eUn (fldD ("games" : Str)) (eVar 0)) (eVar 2)) (eOp subD (eC (.int 1)) (eOp ixD (eVar 1) (eVar 2)))))
theorem sc_loser_of : FnScope N_loser_of ["league", "results", "game"] (defScope s_loser_of) := ⟨rfl, rfl, rfl, by decide +kernel, rfl, by decide +kernel, by decide +kernel⟩
theorem ok_loser_of (W : Wd P w K mg base G xc T fdf fI fdI cc tt) : FnOk P w K mg base (L2.CX P w) 1 (G.fa 13) (fdf 13) ["league", "results", "game"] (spD G xc T 3 false m_loser_of) :=
  okD W.d_loser_of sc_loser_of rfl (by decide) fun cdv A outer s H E L Z hr => by
  have nd := sc_loser_of.nd
  exact (pss_oneD (ps_retD (pe_ixD (ix_D W.hK) (pe_ixD (ix_D W.hK) (pe_fldD W.hK W.lea (pe_varD (i := 0) rfl (by first | exact .inl rfl | exact .inr (.inl rfl) | exact .inr (.inr rfl)))) (pe_varD (i := 2) rfl (by first | exact .inl rfl | exact .inr (.inl rfl) | exact .inr (.inr rfl))) (fun _ _ => rfl)) (pe_opD op_subD pe_intD (pe_ixD (ix_D W.hK) (pe_varD (i := 1) rfl (by first | exact .inl rfl | exact .inr (.inl rfl) | exact .inr (.inr rfl))) (pe_varD (i := 2) rfl (by first | exact .inl rfl | exact .inr (.inl rfl) | exact .inr (.inr rfl))) (fun _ _ => rfl))) (fun _ _ => rfl))))
def c1_decided_of : DE := (eLc (iArgs enuOf (eCons (eVar 0) eNil)) [1, 2] (gTp (gCn (gN 1) (gCn (gN 2) gNl))) (bdLast (eB (eOp isnD (eVar 2) (eC .none))) (eVar 1)))
def N_decided_of : List Str := ["results", "game", "side"]
def m_decided_of : DF := defD 3 1 true
  (sRet true c1_decided_of)
theorem sc_decided_of : FnScope N_decided_of ["results"] (defScope s_decided_of) := ⟨rfl, rfl, rfl, by decide +kernel, rfl, by decide +kernel, by decide +kernel⟩
theorem ok_decided_of (W : Wd P w K mg base G xc T fdf fI fdI cc tt) : FnOk P w K mg base (L2.CX P w) 1 (G.fa 14) (fdf 14) ["results"] (spD G xc T 1 true m_decided_of) :=
  okD W.d_decided_of sc_decided_of rfl (by decide) fun cdv A outer s H E L Z hr => by
  have nd := sc_decided_of.nd
  exact (pss_oneD (ps_retD (pe_lcD (own := [(("game" : Str), 1), (("side" : Str), 2)]) rfl nd (pi_enuD W.hK rfl W.free_enumerate (pa_consD (pe_varD (i := 0) rfl (by first | exact .inl rfl | exact .inr (.inl rfl) | exact .inr (.inr rfl))) pa_nilD)) (blkOk_by (by kernel_rfl)) (by decide) (fun Z _ _ _ _ _ => (pg_tupD W.hK rfl (pgs_consD (pg_nameD (i := 1) nd rfl (by first | exact .inl rfl | exact .inr rfl) (by first | exact .inl rfl | exact .inr rfl)) (pgs_consD (pg_nameD (i := 2) nd rfl (by first | exact .inl rfl | exact .inr rfl) (by first | exact .inl rfl | exact .inr rfl)) pgs_nilD)) (len_cn (len_cn (fun _ _ _ h => len_nl h))))) (fun Z _ _ _ _ _ => (pts_oneD (pt_cmpD op_isnD (pe_varD (i := 2) rfl (by first | exact .inl rfl | exact .inr (.inl rfl) | exact .inr (.inr rfl))) pe_noneD))) (fun Z _ _ _ _ _ => (pe_varD (i := 1) rfl (by first | exact .inl rfl | exact .inr (.inl rfl) | exact .inr (.inr rfl)))))))
def N_check_order : List Str := ["league", "order"]
def m_check_order : DF := defD 2 2 false
  (sIf (bNot (eB (eCall m_is_order_of (eCons (eVar 1) (eCons (eUn (fldD ("teams" : Str)) (eVar 0)) eNil)))))
    (sRaise xn_BadOrder)
    sNext)
theorem sc_check_order : FnScope N_check_order ["league", "order"] (defScope s_check_order) := ⟨rfl, rfl, rfl, by decide +kernel, rfl, by decide +kernel, by decide +kernel⟩
theorem ok_check_order (W : Wd P w K mg base G xc T fdf fI fdI cc tt) : FnOk P w K mg base (L2.CX P w) 6 (G.fa 15) (fdf 15) ["league", "order"] (spD G xc T 2 false m_check_order) :=
  okD W.d_check_order sc_check_order rfl (by decide) fun cdv A outer s H E L Z hr => by
  have nd := sc_check_order.nd
  exact (pss_oneD (ps_ifD (pt_notD (pt_valD (pe_callD (ok_is_order_of W) (hr.mono (by decide)) rfl W.g_is_order_of W.k_is_order_of W.b_is_order_of (passes_call (takes_of rfl rfl rfl rfl) fun _ _ _ _ h => h) rfl rfl rfl defD_len (pa_consD (pe_varD (i := 1) rfl (by first | exact .inl rfl | exact .inr (.inl rfl) | exact .inr (.inr rfl))) (pa_consD (pe_fldD W.hK W.lea (pe_varD (i := 0) rfl (by first | exact .inl rfl | exact .inr (.inl rfl) | exact .inr (.inr rfl)))) pa_nilD)))))
    (pss_oneD (ps_raiseD (c := 2) rfl (takes_of rfl rfl rfl rfl) (pmk_bare PySem.F.excBase_ValueError W.x_BadOrder W.g_BadOrder W.k_BadOrder (raises_own W.s_BadOrder W.t_BadOrder) rfl)))
    pss_nilD))
def b1_upsets_of : DS := (sIf (eB (eOp gtB (eMth indexL (eVar 2) (eCall m_winner_of (eCons (eVar 0) (eCons (eVar 1) (eCons (eVar 4) eNil))))) (eMth indexL (eVar 2) (eCall m_loser_of (eCons (eVar 0) (eCons (eVar 1) (eCons (eVar 4) eNil)))))))
    (sApp 3 [4] false (eVar 4))
    sNext)
def N_upsets_of : List Str := ["league", "results", "order", "found", "game"]
def m_upsets_of : DF := defD 5 3 true
  (sSeq (sSet 3 [] true (eLst eNil))
  (sSeq (sFor [] (iSeq (eFr (eCall m_decided_of (eCons (eVar 1) eNil)))) (gN 4)
    b1_upsets_of)
  (sRetV 3)))
theorem sc_upsets_of : FnScope N_upsets_of ["league", "results", "order"] (defScope s_upsets_of) := ⟨rfl, rfl, rfl, by decide +kernel, rfl, by decide +kernel, by decide +kernel⟩
theorem ok_upsets_of (W : Wd P w K mg base G xc T fdf fI fdI cc tt) : FnOk P w K mg base (L2.CX P w) 2 (G.fa 16) (fdf 16) ["league", "results", "order"] (spD G xc T 3 true m_upsets_of) :=
  okD W.d_upsets_of sc_upsets_of rfl (by decide) fun cdv A outer s H E L Z hr => by
  have nd := sc_upsets_of.nd
  exact (pss_consD (ps_setD (i := 3) nd rfl (by first | exact .inl rfl | exact .inr rfl) (pe_lstD pa_nilD) rfl (by first | exact .inl rfl | exact .inr rfl))
  (pss_consD (ps_forD (M := []) (passes_of rfl) rfl (pi_seqD (pe_frD (pe_callD (ok_decided_of W) (hr.mono (by decide)) rfl W.g_decided_of W.k_decided_of W.b_decided_of (passes_call (takes_of rfl rfl rfl rfl) fun _ _ _ _ h => h) rfl rfl rfl defD_len (pa_consD (pe_varD (i := 1) rfl (by first | exact .inl rfl | exact .inr (.inl rfl) | exact .inr (.inr rfl))) pa_nilD))) W.hK) (pg_nameD (i := 4) nd rfl (by first | exact .inl rfl | exact .inr rfl) (by first | exact .inl rfl | exact .inr rfl))
    (pss_oneD (ps_ifD (pt_cmpD (op_gtB W.hK hr.units) (pe_indexD W.hK (un66 hr) (pe_varD (i := 2) rfl (by first | exact .inl rfl | exact .inr (.inl rfl) | exact .inr (.inr rfl))) (pe_callD (ok_winner_of W) (hr.mono (by decide)) rfl W.g_winner_of W.k_winner_of W.b_winner_of (passes_call (takes_of rfl rfl rfl rfl) fun _ _ _ _ h => h) rfl rfl rfl defD_len (pa_consD (pe_varD (i := 0) rfl (by first | exact .inl rfl | exact .inr (.inl rfl) | exact .inr (.inr rfl))) (pa_consD (pe_varD (i := 1) rfl (by first | exact .inl rfl | exact .inr (.inl rfl) | exact .inr (.inr rfl))) (pa_consD (pe_varD (i := 4) rfl (by first | exact .inl rfl | exact .inr (.inl rfl) | exact .inr (.inr rfl))) pa_nilD))))) (pe_indexD W.hK (un66 hr) (pe_varD (i := 2) rfl (by first | exact .inl rfl | exact .inr (.inl rfl) | exact .inr (.inr rfl))) (pe_callD (ok_loser_of W) (hr.mono (by decide)) rfl W.g_loser_of W.k_loser_of W.b_loser_of (passes_call (takes_of rfl rfl rfl rfl) fun _ _ _ _ h => h) rfl rfl rfl defD_len (pa_consD (pe_varD (i := 0) rfl (by first | exact .inl rfl | exact .inr (.inl rfl) | exact .inr (.inr rfl))) (pa_consD (pe_varD (i := 1) rfl (by first | exact .inl rfl | exact .inr (.inl rfl) | exact .inr (.inr rfl))) (pa_consD (pe_varD (i := 4) rfl (by first | exact .inl rfl | exact .inr (.inl rfl) | exact .inr (.inr rfl))) pa_nilD))))))
    (pss_oneD (ps_appD (i := 3) rfl (by first | exact .inl rfl | exact .inr (.inl rfl) | exact .inr (.inr rfl)) (pe_varD (i := 4) rfl (by first | exact .inl rfl | exact .inr (.inl rfl) | exact .inr (.inr rfl)))))
    pss_nilD)))
  (pss_oneD (ps_retVD (i := 3) rfl (by first | exact .inl rfl | exact .inr (.inl rfl) | exact .inr (.inr rfl))))))
def N_upsets : List Str := ["league", "results", "order"]
def m_upsets : DF := defD 3 3 false
  (sSeq (sDrop (eCall m_check_results (eCons (eVar 0) (eCons (eVar 1) eNil))))
  (sSeq (sDrop (eCall m_check_order (eCons (eVar 0) (eCons (eVar 2) eNil))))
  (sRet false (eArgs tupleD (eCons (eCall m_upsets_of (eCons (eVar 0) (eCons (eVar 1) (eCons (eVar 2) eNil)))) eNil)))))
theorem sc_upsets : FnScope N_upsets ["league", "results", "order"] (defScope s_upsets) := ⟨rfl, rfl, rfl, by decide +kernel, rfl, by decide +kernel, by decide +kernel⟩
theorem ok_upsets (W : Wd P w K mg base G xc T fdf fI fdI cc tt) : FnOk P w K mg base (L2.CX P w) 7 (G.fa 17) (fdf 17) ["league", "results", "order"] (spD G xc T 3 false m_upsets) :=
  okD W.d_upsets sc_upsets rfl (by decide) fun cdv A outer s H E L Z hr => by
  have nd := sc_upsets.nd
  exact (pss_consD (ps_exprD (pe_callD (ok_check_results W) (hr.mono (by decide)) rfl W.g_check_results W.k_check_results W.b_check_results (passes_call (takes_of rfl rfl rfl rfl) fun _ _ _ _ h => h) rfl rfl rfl defD_len (pa_consD (pe_varD (i := 0) rfl (by first | exact .inl rfl | exact .inr (.inl rfl) | exact .inr (.inr rfl))) (pa_consD (pe_varD (i := 1) rfl (by first | exact .inl rfl | exact .inr (.inl rfl) | exact .inr (.inr rfl))) pa_nilD))))
  (pss_consD (ps_exprD (pe_callD (ok_check_order W) (hr.mono (by decide)) rfl W.g_check_order W.k_check_order W.b_check_order (passes_call (takes_of rfl rfl rfl rfl) fun _ _ _ _ h => h) rfl rfl rfl defD_len (pa_consD (pe_varD (i := 0) rfl (by first | exact .inl rfl | exact .inr (.inl rfl) | exact .inr (.inr rfl))) (pa_consD (pe_varD (i := 2) rfl (by first | exact .inl rfl | exact .inr (.inl rfl) | exact .inr (.inr rfl))) pa_nilD))))
  (pss_oneD (ps_retD (pe_callTyD (call_tupleD W.hK) rfl W.free_tuple boot_tuple (pa_consD (pe_callD (ok_upsets_of W) (hr.mono (by decide)) rfl W.g_upsets_of W.k_upsets_of W.b_upsets_of (passes_call (takes_of rfl rfl rfl rfl) fun _ _ _ _ h => h) rfl rfl rfl defD_len (pa_consD (pe_varD (i := 0) rfl (by first | exact .inl rfl | exact .inr (.inl rfl) | exact .inr (.inr rfl))) (pa_consD (pe_varD (i := 1) rfl (by first | exact .inl rfl | exact .inr (.inl rfl) | exact .inr (.inr rfl))) (pa_consD (pe_varD (i := 2) rfl (by first | exact .inl rfl | exact .inr (.inl rfl) | exact .inr (.inr rfl))) pa_nilD)))) pa_nilD))))))
def c1_losses_to : DE := (eLc (iSeq (eVar 4)) [6] (gN 6) (bdLast (eB (eOp eqD (eCall m_winner_of (eCons (eVar 0) (eCons (eVar 1) (eCons (eVar 6) eNil)))) (eVar 2))) (eCall m_loser_of (eCons (eVar 0) (eCons (eVar 1) (eCons (eVar 6) eNil))))))
def c2_losses_to : DE := (eLc (iSeq (eVar 5)) [7] (gN 7) (bdLast (eB (eOp isInD (eVar 7) (eVar 3))) (eVar 7)))
def N_losses_to : List Str := ["league", "results", "team", "ahead", "games", "won", "game", "other"]
def m_losses_to : DF := defD 8 4 false
  (sSeq (sSet 4 (List.range 8) true (eCall m_decided_of (eCons (eVar 1) eNil)))
  (sSeq (sSet 5 (List.range 8) true c1_losses_to)
  (sRet false (eArgs lenD (eCons c2_losses_to eNil)))))
theorem sc_losses_to : FnScope N_losses_to ["league", "results", "team", "ahead"] (defScope s_losses_to) := ⟨rfl, rfl, rfl, by decide +kernel, rfl, by decide +kernel, by decide +kernel⟩
theorem ok_losses_to (W : Wd P w K mg base G xc T fdf fI fdI cc tt) : FnOk P w K mg base (L2.CX P w) 2 (G.fa 18) (fdf 18) ["league", "results", "team", "ahead"] (spD G xc T 4 false m_losses_to) :=
  okD W.d_losses_to sc_losses_to rfl (by decide) fun cdv A outer s H E L Z hr => by
  have nd := sc_losses_to.nd
  exact (pss_consD (ps_setD (i := 4) nd rfl (by first | exact .inl rfl | exact .inr rfl) (pe_callD (ok_decided_of W) (hr.mono (by decide)) rfl W.g_decided_of W.k_decided_of W.b_decided_of (passes_call (takes_of rfl rfl rfl rfl) fun _ _ _ _ h => h) rfl rfl rfl defD_len (pa_consD (pe_varD (i := 1) rfl (by first | exact .inl rfl | exact .inr (.inl rfl) | exact .inr (.inr rfl))) pa_nilD)) rfl (by first | exact .inl rfl | exact .inr rfl))
  (pss_consD (ps_setLcD (i := 5) (own := [(("game" : Str), 6)]) rfl nd rfl rfl (sw_true rfl rfl rfl (by decide +kernel)) (pi_seqD (pe_varD (i := 4) rfl (by first | exact .inl rfl | exact .inr (.inl rfl) | exact .inr (.inr rfl))) W.hK) (blkOk_by (by kernel_rfl)) (by decide) (fun Z _ _ _ _ _ => (pg_nameD (i := 6) nd rfl (by first | exact .inl rfl | exact .inr rfl) (by first | exact .inl rfl | exact .inr rfl))) (fun Z _ _ _ _ _ => (pts_oneD (pt_cmpD (op_eqDD W.hK hr.units) (pe_callD (ok_winner_of W) (hr.mono (by decide)) rfl W.g_winner_of W.k_winner_of W.b_winner_of passL rfl rfl rfl defD_len (pa_consD (pe_varD (i := 0) rfl (by first | exact .inl rfl | exact .inr (.inl rfl) | exact .inr (.inr rfl))) (pa_consD (pe_varD (i := 1) rfl (by first | exact .inl rfl | exact .inr (.inl rfl) | exact .inr (.inr rfl))) (pa_consD (pe_varD (i := 6) rfl (by first | exact .inl rfl | exact .inr (.inl rfl) | exact .inr (.inr rfl))) pa_nilD)))) (pe_varD (i := 2) rfl (by first | exact .inl rfl | exact .inr (.inl rfl) | exact .inr (.inr rfl)))))) (fun Z _ _ _ _ _ => (pe_callD (ok_loser_of W) (hr.mono (by decide)) rfl W.g_loser_of W.k_loser_of W.b_loser_of passL rfl rfl rfl defD_len (pa_consD (pe_varD (i := 0) rfl (by first | exact .inl rfl | exact .inr (.inl rfl) | exact .inr (.inr rfl))) (pa_consD (pe_varD (i := 1) rfl (by first | exact .inl rfl | exact .inr (.inl rfl) | exact .inr (.inr rfl))) (pa_consD (pe_varD (i := 6) rfl (by first | exact .inl rfl | exact .inr (.inl rfl) | exact .inr (.inr rfl))) pa_nilD))))))
  (pss_oneD (ps_retD (pe_callBD (call_lenD' W.hK) rfl W.free_len boot_len (pa_consD (pe_lcD (own := [(("other" : Str), 7)]) rfl nd (pi_seqD (pe_varD (i := 5) rfl (by first | exact .inl rfl | exact .inr (.inl rfl) | exact .inr (.inr rfl))) W.hK) (blkOk_by (by kernel_rfl)) (by decide) (fun Z _ _ _ _ _ => (pg_nameD (i := 7) nd rfl (by first | exact .inl rfl | exact .inr rfl) (by first | exact .inl rfl | exact .inr rfl))) (fun Z _ _ _ _ _ => (pts_oneD (pt_cmpD (op_inD W.hK (un65 hr)) (pe_varD (i := 7) rfl (by first | exact .inl rfl | exact .inr (.inl rfl) | exact .inr (.inr rfl))) (pe_varD (i := 3) rfl (by first | exact .inl rfl | exact .inr (.inl rfl) | exact .inr (.inr rfl)))))) (fun Z _ _ _ _ _ => (pe_varD (i := 7) rfl (by first | exact .inl rfl | exact .inr (.inl rfl) | exact .inr (.inr rfl))))) pa_nilD))))))
def c1_best_orders : DE := (eLc (iKeysD (eVar 2)) [6] (gN 6) (bdLast (eB (eOp eqD (eArgs lenD (eCons (eVar 6) eNil)) (eVar 3))) (eVar 6)))
def c2_best_orders : DE := (eLc (iSeq (eCall m_everybody (eCons (eVar 0) eNil))) [6] (gN 6) (bdLast (eB (eOp notInD (eVar 6) (eVar 4))) (eVar 6)))
def b1_best_orders : DS := (sSeq (sUnp ([2] ++ [4]) (eOp dixD (eVar 2) (eVar 4)) (gTp (gCn (gN 9) (gCn (gN 10) gNl))))
  (sSeq (sSet 7 (([9] ++ (List.range 11)) ++ (([10] ++ ([5] ++ [])) ++ [])) false (eTup (eCons (eOp addD (eVar 9) (eCall m_losses_to (eCons (eVar 0) (eCons (eVar 1) (eCons (eVar 5) (eCons (eVar 4) eNil)))))) (eCons (eOp addD (eVar 10) (eTup (eCons (eVar 5) eNil))) eNil))))
  (sSeq (sSet 8 (List.range 11) false (eCall m_row_of (eCons (eOp addD (eVar 4) (eTup (eCons (eVar 5) eNil))) eNil)))
  (sIf (bOr (eB (eOp dnotInD (eVar 8) (eVar 2))) (eB (eOp ltB (eVar 7) (eOp dixD (eVar 2) (eVar 8)))))
    (sDSet 2 [7] false (eVar 8) (eVar 7))
    sNext))))
def b2_best_orders : DS := (sFor [] (iSeq (eFr c2_best_orders)) (gN 5)
    b1_best_orders)
def b3_best_orders : DS := (sFor [] (iSeq (eFr c1_best_orders)) (gN 4)
    b2_best_orders)
def N_best_orders : List Str := ["league", "results", "found", "turn", "row", "team", "one", "told", "longer", "number", "order"]
def m_best_orders : DF := defD 11 2 true
  (sSeq (sSet 2 [] true (eD1 (eTup eNil) (eTup (eCons (eC (.int 0)) (eCons (eTup eNil) eNil)))))
  (sSeq (sFor [] (iSeq (eNl (eCall m_everybody (eCons (eVar 0) eNil)))) (gN 3)
    b3_best_orders)
  (sRetV 2)))
theorem sc_best_orders : FnScope N_best_orders ["league", "results"] (defScope s_best_orders) := ⟨rfl, rfl, rfl, by decide +kernel, rfl, by decide +kernel, by decide +kernel⟩
theorem ok_best_orders (W : Wd P w K mg base G xc T fdf fI fdI cc tt) : FnOk P w K mg base (L2.CX P w) 3 (G.fa 19) (fdf 19) ["league", "results"] (spD G xc T 2 true m_best_orders) :=
  okD W.d_best_orders sc_best_orders rfl (by decide) fun cdv A outer s H E L Z hr => by
  have nd := sc_best_orders.nd
  exact (pss_consD (ps_setD (i := 2) nd rfl (by first | exact .inl rfl | exact .inr rfl) (pe_dict1D W.hK W.hP (un66 hr) (pe_tupD pa_nilD) (pe_tupD (pa_consD pe_intD (pa_consD (pe_tupD pa_nilD) pa_nilD)))) rfl (by first | exact .inl rfl | exact .inr rfl))
  (pss_consD (ps_forD (M := []) (passes_of rfl) rfl (pi_seqD (pe_nlD (pe_callD (ok_everybody W) (hr.mono (by decide)) rfl W.g_everybody W.k_everybody W.b_everybody (passes_call (takes_of rfl rfl rfl rfl) fun _ _ _ _ h => h) rfl rfl rfl defD_len (pa_consD (pe_varD (i := 0) rfl (by first | exact .inl rfl | exact .inr (.inl rfl) | exact .inr (.inr rfl))) pa_nilD))) W.hK) (pg_nameD (i := 3) nd rfl (by first | exact .inl rfl | exact .inr rfl) (by first | exact .inl rfl | exact .inr rfl))
    (pss_oneD (ps_forD (M := []) (passes_of rfl) rfl (pi_seqD (pe_frD (pe_lcD (own := [(("one" : Str), 6)]) rfl nd (pi_keysD (pe_varD (i := 2) rfl (by first | exact .inl rfl | exact .inr (.inl rfl) | exact .inr (.inr rfl))) W.hK W.hP) (blkOk_by (by kernel_rfl)) (by decide) (fun Z _ _ _ _ _ => (pg_nameD (i := 6) nd rfl (by first | exact .inl rfl | exact .inr rfl) (by first | exact .inl rfl | exact .inr rfl))) (fun Z _ _ _ _ _ => (pts_oneD (pt_cmpD (op_eqDD W.hK hr.units) (pe_callBD (call_lenD' W.hK) rfl W.free_len boot_len (pa_consD (pe_varD (i := 6) rfl (by first | exact .inl rfl | exact .inr (.inl rfl) | exact .inr (.inr rfl))) pa_nilD)) (pe_varD (i := 3) rfl (by first | exact .inl rfl | exact .inr (.inl rfl) | exact .inr (.inr rfl)))))) (fun Z _ _ _ _ _ => (pe_varD (i := 6) rfl (by first | exact .inl rfl | exact .inr (.inl rfl) | exact .inr (.inr rfl)))))) W.hK) (pg_nameD (i := 4) nd rfl (by first | exact .inl rfl | exact .inr rfl) (by first | exact .inl rfl | exact .inr rfl))
    (pss_oneD (ps_forD (M := []) (passes_of rfl) rfl (pi_seqD (pe_frD (pe_lcD (own := [(("one" : Str), 6)]) rfl nd (pi_seqD (pe_callD (ok_everybody W) (hr.mono (by decide)) rfl W.g_everybody W.k_everybody W.b_everybody (passes_call (takes_of rfl rfl rfl rfl) fun _ _ _ _ h => h) rfl rfl rfl defD_len (pa_consD (pe_varD (i := 0) rfl (by first | exact .inl rfl | exact .inr (.inl rfl) | exact .inr (.inr rfl))) pa_nilD)) W.hK) (blkOk_by (by kernel_rfl)) (by decide) (fun Z _ _ _ _ _ => (pg_nameD (i := 6) nd rfl (by first | exact .inl rfl | exact .inr rfl) (by first | exact .inl rfl | exact .inr rfl))) (fun Z _ _ _ _ _ => (pts_oneD (pt_cmpD (op_notInDD W.hK (un65 hr)) (pe_varD (i := 6) rfl (by first | exact .inl rfl | exact .inr (.inl rfl) | exact .inr (.inr rfl))) (pe_varD (i := 4) rfl (by first | exact .inl rfl | exact .inr (.inl rfl) | exact .inr (.inr rfl)))))) (fun Z _ _ _ _ _ => (pe_varD (i := 6) rfl (by first | exact .inl rfl | exact .inr (.inl rfl) | exact .inr (.inr rfl)))))) W.hK) (pg_nameD (i := 5) nd rfl (by first | exact .inl rfl | exact .inr rfl) (by first | exact .inl rfl | exact .inr rfl))
    (pss_consD (ps_unpD (pe_ixD (ix_dt W.hK W.hP (un66 hr)) (pe_varD (i := 2) rfl (by first | exact .inl rfl | exact .inr (.inl rfl) | exact .inr (.inr rfl))) (pe_varD (i := 4) rfl (by first | exact .inl rfl | exact .inr (.inl rfl) | exact .inr (.inr rfl))) (fun _ _ => rfl)) (pg_tupD W.hK rfl (pgs_consD (pg_nameD (i := 9) nd rfl (by first | exact .inl rfl | exact .inr rfl) (by first | exact .inl rfl | exact .inr rfl)) (pgs_consD (pg_nameD (i := 10) nd rfl (by first | exact .inl rfl | exact .inr rfl) (by first | exact .inl rfl | exact .inr rfl)) pgs_nilD)) (len_cn (len_cn (fun _ _ _ h => len_nl h)))))
  (pss_consD (ps_setD (i := 7) nd rfl (by first | exact .inl rfl | exact .inr rfl) (pe_tupD (pa_consD (pe_opD (op_addD W.hK) (pe_varD (i := 9) rfl (by first | exact .inl rfl | exact .inr (.inl rfl) | exact .inr (.inr rfl))) (pe_callD (ok_losses_to W) (hr.mono (by decide)) rfl W.g_losses_to W.k_losses_to W.b_losses_to (passes_call (takes_of rfl rfl rfl rfl) fun _ _ _ _ h => h) rfl rfl rfl defD_len (pa_consD (pe_varD (i := 0) rfl (by first | exact .inl rfl | exact .inr (.inl rfl) | exact .inr (.inr rfl))) (pa_consD (pe_varD (i := 1) rfl (by first | exact .inl rfl | exact .inr (.inl rfl) | exact .inr (.inr rfl))) (pa_consD (pe_varD (i := 5) rfl (by first | exact .inl rfl | exact .inr (.inl rfl) | exact .inr (.inr rfl))) (pa_consD (pe_varD (i := 4) rfl (by first | exact .inl rfl | exact .inr (.inl rfl) | exact .inr (.inr rfl))) pa_nilD)))))) (pa_consD (pe_opD (op_addD W.hK) (pe_varD (i := 10) rfl (by first | exact .inl rfl | exact .inr (.inl rfl) | exact .inr (.inr rfl))) (pe_tupD (pa_consD (pe_varD (i := 5) rfl (by first | exact .inl rfl | exact .inr (.inl rfl) | exact .inr (.inr rfl))) pa_nilD))) pa_nilD))) rfl (by first | exact .inl rfl | exact .inr rfl))
  (pss_consD (ps_setD (i := 8) nd rfl (by first | exact .inl rfl | exact .inr rfl) (pe_callD (ok_row_of W) (hr.mono (by decide)) rfl W.g_row_of W.k_row_of W.b_row_of (passes_call (takes_of rfl rfl rfl rfl) fun _ _ _ _ h => h) rfl rfl rfl defD_len (pa_consD (pe_opD (op_addD W.hK) (pe_varD (i := 4) rfl (by first | exact .inl rfl | exact .inr (.inl rfl) | exact .inr (.inr rfl))) (pe_tupD (pa_consD (pe_varD (i := 5) rfl (by first | exact .inl rfl | exact .inr (.inl rfl) | exact .inr (.inr rfl))) pa_nilD))) pa_nilD)) rfl (by first | exact .inl rfl | exact .inr rfl))
  (pss_oneD (ps_ifD (PW.pt (pw_orD (pt_cmpD (op_dnotInD W.hK W.hP (un66 hr)) (pe_varD (i := 8) rfl (by first | exact .inl rfl | exact .inr (.inl rfl) | exact .inr (.inr rfl))) (pe_varD (i := 2) rfl (by first | exact .inl rfl | exact .inr (.inl rfl) | exact .inr (.inr rfl)))) (pw_or1D (pt_cmpD (op_ltB W.hK hr.units) (pe_varD (i := 7) rfl (by first | exact .inl rfl | exact .inr (.inl rfl) | exact .inr (.inr rfl))) (pe_ixD (ix_dt W.hK W.hP (un66 hr)) (pe_varD (i := 2) rfl (by first | exact .inl rfl | exact .inr (.inl rfl) | exact .inr (.inr rfl))) (pe_varD (i := 8) rfl (by first | exact .inl rfl | exact .inr (.inl rfl) | exact .inr (.inr rfl))) (fun _ _ => rfl))))))
    (pss_oneD (ps_dsetD (i := 2) W.hK W.hP (un66 hr) rfl (by first | exact .inl rfl | exact .inr (.inl rfl) | exact .inr (.inr rfl)) (pe_varD (i := 7) rfl (by first | exact .inl rfl | exact .inr (.inl rfl) | exact .inr (.inr rfl))) (pe_varD (i := 8) rfl (by first | exact .inl rfl | exact .inr (.inl rfl) | exact .inr (.inr rfl)))))
    pss_nilD))))))))))
  (pss_oneD (ps_retVD (i := 2) rfl (by first | exact .inl rfl | exact .inr (.inl rfl) | exact .inr (.inr rfl))))))
def N_best_of : List Str := ["league", "results"]
def m_best_of : DF := defD 2 2 false
  (sRet false (eOp dixD (eCall m_best_orders (eCons (eVar 0) (eCons (eVar 1) eNil))) (eCall m_everybody (eCons (eVar 0) eNil))))
theorem sc_best_of : FnScope N_best_of ["league", "results"] (defScope s_best_of) := ⟨rfl, rfl, rfl, by decide +kernel, rfl, by decide +kernel, by decide +kernel⟩
theorem ok_best_of (W : Wd P w K mg base G xc T fdf fI fdI cc tt) : FnOk P w K mg base (L2.CX P w) 4 (G.fa 20) (fdf 20) ["league", "results"] (spD G xc T 2 false m_best_of) :=
  okD W.d_best_of sc_best_of rfl (by decide) fun cdv A outer s H E L Z hr => by
  have nd := sc_best_of.nd
  exact (pss_oneD (ps_retD (pe_ixD (ix_dt W.hK W.hP (un66 hr)) (pe_callD (ok_best_orders W) (hr.mono (by decide)) rfl W.g_best_orders W.k_best_orders W.b_best_orders (passes_call (takes_of rfl rfl rfl rfl) fun _ _ _ _ h => h) rfl rfl rfl defD_len (pa_consD (pe_varD (i := 0) rfl (by first | exact .inl rfl | exact .inr (.inl rfl) | exact .inr (.inr rfl))) (pa_consD (pe_varD (i := 1) rfl (by first | exact .inl rfl | exact .inr (.inl rfl) | exact .inr (.inr rfl))) pa_nilD))) (pe_callD (ok_everybody W) (hr.mono (by decide)) rfl W.g_everybody W.k_everybody W.b_everybody (passes_call (takes_of rfl rfl rfl rfl) fun _ _ _ _ h => h) rfl rfl rfl defD_len (pa_consD (pe_varD (i := 0) rfl (by first | exact .inl rfl | exact .inr (.inl rfl) | exact .inr (.inr rfl))) pa_nilD)) (fun _ _ => rfl))))
def N_fewest_upsets : List Str := ["league", "results"]
def m_fewest_upsets : DF := defD 2 2 false
  (sSeq (sDrop (eCall m_check_results (eCons (eVar 0) (eCons (eVar 1) eNil))))
  (sRet false (eOp ixD (eCall m_best_of (eCons (eVar 0) (eCons (eVar 1) eNil))) (eC (.int 0)))))
theorem sc_fewest_upsets : FnScope N_fewest_upsets ["league", "results"] (defScope s_fewest_upsets) := ⟨rfl, rfl, rfl, by decide +kernel, rfl, by decide +kernel, by decide +kernel⟩
theorem ok_fewest_upsets (W : Wd P w K mg base G xc T fdf fI fdI cc tt) : FnOk P w K mg base (L2.CX P w) 6 (G.fa 21) (fdf 21) ["league", "results"] (spD G xc T 2 false m_fewest_upsets) :=
  okD W.d_fewest_upsets sc_fewest_upsets rfl (by decide) fun cdv A outer s H E L Z hr => by
  have nd := sc_fewest_upsets.nd
  exact (pss_consD (ps_exprD (pe_callD (ok_check_results W) (hr.mono (by decide)) rfl W.g_check_results W.k_check_results W.b_check_results (passes_call (takes_of rfl rfl rfl rfl) fun _ _ _ _ h => h) rfl rfl rfl defD_len (pa_consD (pe_varD (i := 0) rfl (by first | exact .inl rfl | exact .inr (.inl rfl) | exact .inr (.inr rfl))) (pa_consD (pe_varD (i := 1) rfl (by first | exact .inl rfl | exact .inr (.inl rfl) | exact .inr (.inr rfl))) pa_nilD))))
  (pss_oneD (ps_retD (pe_ixD (ix_D W.hK) (pe_callD (ok_best_of W) (hr.mono (by decide)) rfl W.g_best_of W.k_best_of W.b_best_of (passes_call (takes_of rfl rfl rfl rfl) fun _ _ _ _ h => h) rfl rfl rfl defD_len (pa_consD (pe_varD (i := 0) rfl (by first | exact .inl rfl | exact .inr (.inl rfl) | exact .inr (.inr rfl))) (pa_consD (pe_varD (i := 1) rfl (by first | exact .inl rfl | exact .inr (.inl rfl) | exact .inr (.inr rfl))) pa_nilD))) pe_intD (fun _ _ => rfl)))))
def N_best_order : List Str := ["league", "results"]
def m_best_order : DF := defD 2 2 false
  (sSeq (sDrop (eCall m_check_results (eCons (eVar 0) (eCons (eVar 1) eNil))))
  (sRet false (eOp ixD (eCall m_best_of (eCons (eVar 0) (eCons (eVar 1) eNil))) (eC (.int 1)))))
theorem sc_best_order : FnScope N_best_order ["league", "results"] (defScope s_best_order) := ⟨rfl, rfl, rfl, by decide +kernel, rfl, by decide +kernel, by decide +kernel⟩
theorem ok_best_order (W : Wd P w K mg base G xc T fdf fI fdI cc tt) : FnOk P w K mg base (L2.CX P w) 6 (G.fa 22) (fdf 22) ["league", "results"] (spD G xc T 2 false m_best_order) :=
  okD W.d_best_order sc_best_order rfl (by decide) fun cdv A outer s H E L Z hr => by
  have nd := sc_best_order.nd
  exact (pss_consD (ps_exprD (pe_callD (ok_check_results W) (hr.mono (by decide)) rfl W.g_check_results W.k_check_results W.b_check_results (passes_call (takes_of rfl rfl rfl rfl) fun _ _ _ _ h => h) rfl rfl rfl defD_len (pa_consD (pe_varD (i := 0) rfl (by first | exact .inl rfl | exact .inr (.inl rfl) | exact .inr (.inr rfl))) (pa_consD (pe_varD (i := 1) rfl (by first | exact .inl rfl | exact .inr (.inl rfl) | exact .inr (.inr rfl))) pa_nilD))))
  (pss_oneD (ps_retD (pe_ixD (ix_D W.hK) (pe_callD (ok_best_of W) (hr.mono (by decide)) rfl W.g_best_of W.k_best_of W.b_best_of (passes_call (takes_of rfl rfl rfl rfl) fun _ _ _ _ h => h) rfl rfl rfl defD_len (pa_consD (pe_varD (i := 0) rfl (by first | exact .inl rfl | exact .inr (.inl rfl) | exact .inr (.inr rfl))) (pa_consD (pe_varD (i := 1) rfl (by first | exact .inl rfl | exact .inr (.inl rfl) | exact .inr (.inr rfl))) pa_nilD))) pe_intD (fun _ _ => rfl)))))
def N_is_best_order : List Str := ["league", "results", "thing"]
def m_is_best_order : DF := defD 3 3 false
  (sSeq (sDrop (eCall m_check_results (eCons (eVar 0) (eCons (eVar 1) eNil))))
  (sSeq (sIf (bNot (eB (eCall m_is_order_of (eCons (eVar 2) (eCons (eUn (fldD ("teams" : Str)) (eVar 0)) eNil)))))
    (sRet false (eC (.bool false)))
    sNext)
  (sRet false (eOp eqD (eArgs lenD (eCons (eCall m_upsets_of (eCons (eVar 0) (eCons (eVar 1) (eCons (eVar 2) eNil)))) eNil)) (eOp ixD (eCall m_best_of (eCons (eVar 0) (eCons (eVar 1) eNil))) (eC (.int 0)))))))
theorem sc_is_best_order : FnScope N_is_best_order ["league", "results", "thing"] (defScope s_is_best_order) := ⟨rfl, rfl, rfl, by decide +kernel, rfl, by decide +kernel, by decide +kernel⟩
theorem ok_is_best_order (W : Wd P w K mg base G xc T fdf fI fdI cc tt) : FnOk P w K mg base (L2.CX P w) 6 (G.fa 23) (fdf 23) ["league", "results", "thing"] (spD G xc T 3 false m_is_best_order) :=
  okD W.d_is_best_order sc_is_best_order rfl (by decide) fun cdv A outer s H E L Z hr => by
  have nd := sc_is_best_order.nd
  exact (pss_consD (ps_exprD (pe_callD (ok_check_results W) (hr.mono (by decide)) rfl W.g_check_results W.k_check_results W.b_check_results (passes_call (takes_of rfl rfl rfl rfl) fun _ _ _ _ h => h) rfl rfl rfl defD_len (pa_consD (pe_varD (i := 0) rfl (by first | exact .inl rfl | exact .inr (.inl rfl) | exact .inr (.inr rfl))) (pa_consD (pe_varD (i := 1) rfl (by first | exact .inl rfl | exact .inr (.inl rfl) | exact .inr (.inr rfl))) pa_nilD))))
  (pss_consD (ps_ifD (pt_notD (pt_valD (pe_callD (ok_is_order_of W) (hr.mono (by decide)) rfl W.g_is_order_of W.k_is_order_of W.b_is_order_of (passes_call (takes_of rfl rfl rfl rfl) fun _ _ _ _ h => h) rfl rfl rfl defD_len (pa_consD (pe_varD (i := 2) rfl (by first | exact .inl rfl | exact .inr (.inl rfl) | exact .inr (.inr rfl))) (pa_consD (pe_fldD W.hK W.lea (pe_varD (i := 0) rfl (by first | exact .inl rfl | exact .inr (.inl rfl) | exact .inr (.inr rfl)))) pa_nilD)))))
    (pss_oneD (ps_retD pe_boolD))
    pss_nilD)
  (pss_oneD (ps_retD (pe_cmpD (op_eqDD W.hK hr.units) (pe_callBD (call_lenD' W.hK) rfl W.free_len boot_len (pa_consD (pe_callD (ok_upsets_of W) (hr.mono (by decide)) rfl W.g_upsets_of W.k_upsets_of W.b_upsets_of (passes_call (takes_of rfl rfl rfl rfl) fun _ _ _ _ h => h) rfl rfl rfl defD_len (pa_consD (pe_varD (i := 0) rfl (by first | exact .inl rfl | exact .inr (.inl rfl) | exact .inr (.inr rfl))) (pa_consD (pe_varD (i := 1) rfl (by first | exact .inl rfl | exact .inr (.inl rfl) | exact .inr (.inr rfl))) (pa_consD (pe_varD (i := 2) rfl (by first | exact .inl rfl | exact .inr (.inl rfl) | exact .inr (.inr rfl))) pa_nilD)))) pa_nilD)) (pe_ixD (ix_D W.hK) (pe_callD (ok_best_of W) (hr.mono (by decide)) rfl W.g_best_of W.k_best_of W.b_best_of (passes_call (takes_of rfl rfl rfl rfl) fun _ _ _ _ h => h) rfl rfl rfl defD_len (pa_consD (pe_varD (i := 0) rfl (by first | exact .inl rfl | exact .inr (.inl rfl) | exact .inr (.inr rfl))) (pa_consD (pe_varD (i := 1) rfl (by first | exact .inl rfl | exact .inr (.inl rfl) | exact .inr (.inr rfl))) pa_nilD))) pe_intD (fun _ _ => rfl)))))))
def c1__law_hand : DE := (eLc (iSeq (eSl (eVar 0) oNone (oSome (eC (.int 63))))) [2] (gN 2) (bdLast cYes (eArgs absD (eCons (eArgs intD (eCons (eVar 2) eNil)) eNil))))
def N__law_hand : List Str := ["script", "cells", "cell"]
def m__law_hand : DF := defD 3 1 true
  (sSeq (sSet 1 (List.range 3) true c1__law_hand)
  (sRet true (eLst (eCons (eVar 1) (eCons (eC (.int 0)) (eCons (eC (.int 0)) (eCons (eOp addD (eC (.int 877)) (eOp mulD (eC (.int 5)) (eArgs lenD (eCons (eVar 1) eNil)))) (eCons (eC (.int 0)) eNil))))))))
theorem sc__law_hand : FnScope N__law_hand ["script"] (defScope s__law_hand) := ⟨rfl, rfl, rfl, by decide +kernel, rfl, by decide +kernel, by decide +kernel⟩
theorem ok__law_hand (W : Wd P w K mg base G xc T fdf fI fdI cc tt) : FnOk P w K mg base (L2.CX P w) 1 (G.fa 24) (fdf 24) ["script"] (spD G xc T 1 true m__law_hand) :=
  okD W.d__law_hand sc__law_hand rfl (by decide) fun cdv A outer s H E L Z hr => by
  have nd := sc__law_hand.nd
  exact (pss_consD (ps_setLcD (i := 1) (own := [(("cell" : Str), 2)]) rfl nd rfl rfl (sw_true rfl rfl rfl (by decide +kernel)) (pi_seqD (pe_slD W.hK (pe_varD (i := 0) rfl (by first | exact .inl rfl | exact .inr (.inl rfl) | exact .inr (.inr rfl))) po_noneD (po_someD pe_intD)) W.hK) (blkOk_by (by kernel_rfl)) (by decide) (fun Z _ _ _ _ _ => (pg_nameD (i := 2) nd rfl (by first | exact .inl rfl | exact .inr rfl) (by first | exact .inl rfl | exact .inr rfl))) (fun Z _ _ _ _ _ => pts_nilD) (fun Z _ _ _ _ _ => (pe_callBD call_absD rfl W.free_abs boot_abs (pa_consD (pe_callTyD call_intD rfl W.free_int boot_int (pa_consD (pe_varD (i := 2) rfl (by first | exact .inl rfl | exact .inr (.inl rfl) | exact .inr (.inr rfl))) pa_nilD)) pa_nilD))))
  (pss_oneD (ps_retD (pe_lstD (pa_consD (pe_varD (i := 1) rfl (by first | exact .inl rfl | exact .inr (.inl rfl) | exact .inr (.inr rfl))) (pa_consD pe_intD (pa_consD pe_intD (pa_consD (pe_opD (op_addD W.hK) pe_intD (pe_opD op_mulD pe_intD (pe_callBD (call_lenD' W.hK) rfl W.free_len boot_len (pa_consD (pe_varD (i := 1) rfl (by first | exact .inl rfl | exact .inr (.inl rfl) | exact .inr (.inr rfl))) pa_nilD)))) (pa_consD pe_intD pa_nilD)))))))))
def i1__law_draw : DS := (sIf (bAnd (eB (eOp eqD (eIxV 0 (eC (.int 2))) (eC (.int 0)))) (eB (eOp ltB (eIxV 0 (eC (.int 1))) (eArgs lenD (eCons (eIxV 0 (eC (.int 0))) eNil)))))
    (sSeq (sSet 3 ([] ++ []) false (eOp ixD (eIxV 0 (eC (.int 0))) (eIxV 0 (eC (.int 1)))))
  (sSeq (sSub 0 ([] ++ []) true (eC (.int 1)) (eOp addD (eIxV 0 (eC (.int 1))) (eC (.int 1))))
  (sSeq (sSub 0 ((((([] ++ []) ++ ([3] ++ [])) ++ []) ++ []) ++ []) true (eC (.int 3)) (eOp modD (eArgs intD (eCons (eOp addD (eOp addD (eOp mulD (eIxV 0 (eC (.int 3))) (eC (.int 69621))) (eOp mulD (eVar 3) (eC (.int 40692)))) (eC (.int 37))) eNil)) (eC (.int 2147483629))))
  (sIf (eB (eOp geB (eVar 3) (eOp powD (eC (.int 10)) (eC (.int 18)))))
    (sSub 0 [3] false (eC (.int 2)) (eVar 3))
    sNext))))
    sNext)
def i2__law_draw : DS := (sIf (eB (eOp gtB (eIxV 0 (eC (.int 2))) (eC (.int 0))))
    (sSeq (sSet 4 (([] ++ []) ++ [1]) true (eOp modD (eArgs intD (eCons (eIxV 0 (eC (.int 2))) eNil)) (eVar 1)))
  (sSeq (sSub 0 ([] ++ [1]) true (eC (.int 2)) (eOp divD (eIxV 0 (eC (.int 2))) (eVar 1)))
  (sRetV 4)))
    sNext)
def N__law_draw : List Str := ["hand", "many", "number", "cell", "digit"]
def m__law_draw : DF := defD 5 2 false
  (sSeq i1__law_draw
  (sSeq i2__law_draw
  (sSeq (sSub 0 ([] ++ []) true (eC (.int 4)) (eOp addD (eIxV 0 (eC (.int 4))) (eC (.int 1))))
  (sSeq (sSet 2 ((((([] ++ ([] ++ [])) ++ []) ++ []) ++ []) ++ []) true (eOp modD (eArgs intD (eCons (eOp mulD (eArgs intD (eCons (eOp addD (eIxV 0 (eC (.int 3))) (eOp mulD (eC (.int 7919)) (eIxV 0 (eC (.int 4))))) eNil)) (eC (.int 48271))) eNil)) (eC (.int 2147483647))))
  (sSeq (sSet 2 ((([2] ++ (([2] ++ []) ++ [])) ++ []) ++ []) true (eOp modD (eArgs intD (eCons (eOp mulD (eVar 2) (eOp addD (eOp divD (eVar 2) (eC (.int 1009))) (eC (.int 69621)))) eNil)) (eC (.int 2147483647))))
  (sSeq (sSet 2 ((([2] ++ (([2] ++ []) ++ [])) ++ []) ++ []) true (eOp modD (eArgs intD (eCons (eOp mulD (eVar 2) (eOp addD (eOp divD (eVar 2) (eC (.int 2003))) (eC (.int 40014)))) eNil)) (eC (.int 2147483563))))
  (sRet true (eOp modD (eArgs intD (eCons (eOp divD (eVar 2) (eC (.int 16))) eNil)) (eVar 1)))))))))
theorem sc__law_draw : FnScope N__law_draw ["hand", "many"] (defScope s__law_draw) := ⟨rfl, rfl, rfl, by decide +kernel, rfl, by decide +kernel, by decide +kernel⟩
theorem ok__law_draw (W : Wd P w K mg base G xc T fdf fI fdI cc tt) : FnOk P w K mg base (L2.CX P w) 1 (G.fa 25) (fdf 25) ["hand", "many"] (spD G xc T 2 false m__law_draw) :=
  okD W.d__law_draw sc__law_draw rfl (by decide) fun cdv A outer s H E L Z hr => by
  have nd := sc__law_draw.nd
  exact (pss_consD (ps_ifD (PW.pt (pw_andD (pt_cmpD (op_eqDD W.hK hr.units) (pe_ixV (i := 0) W.hK rfl (by first | exact .inl rfl | exact .inr (.inl rfl) | exact .inr (.inr rfl)) pe_intD (fun _ _ => rfl)) pe_intD) (pw_and1D (pt_cmpD (op_ltB W.hK hr.units) (pe_ixV (i := 0) W.hK rfl (by first | exact .inl rfl | exact .inr (.inl rfl) | exact .inr (.inr rfl)) pe_intD (fun _ _ => rfl)) (pe_callBD (call_lenD' W.hK) rfl W.free_len boot_len (pa_consD (pe_ixV (i := 0) W.hK rfl (by first | exact .inl rfl | exact .inr (.inl rfl) | exact .inr (.inr rfl)) pe_intD (fun _ _ => rfl)) pa_nilD))))))
    (pss_consD (ps_setD (i := 3) nd rfl (by first | exact .inl rfl | exact .inr rfl) (pe_ixD (ix_D W.hK) (pe_ixV (i := 0) W.hK rfl (by first | exact .inl rfl | exact .inr (.inl rfl) | exact .inr (.inr rfl)) pe_intD (fun _ _ => rfl)) (pe_ixV (i := 0) W.hK rfl (by first | exact .inl rfl | exact .inr (.inl rfl) | exact .inr (.inr rfl)) pe_intD (fun _ _ => rfl)) (fun _ _ => rfl)) rfl (by first | exact .inl rfl | exact .inr rfl))
  (pss_consD (ps_subD (i := 0) rfl (by first | exact .inl rfl | exact .inr (.inl rfl) | exact .inr (.inr rfl)) (pe_opD (op_addD W.hK) (pe_ixV (i := 0) W.hK rfl (by first | exact .inl rfl | exact .inr (.inl rfl) | exact .inr (.inr rfl)) pe_intD (fun _ _ => rfl)) pe_intD) pe_intD)
  (pss_consD (ps_subD (i := 0) rfl (by first | exact .inl rfl | exact .inr (.inl rfl) | exact .inr (.inr rfl)) (pe_opD op_modD (pe_callTyD call_intD rfl W.free_int boot_int (pa_consD (pe_opD (op_addD W.hK) (pe_opD (op_addD W.hK) (pe_opD op_mulD (pe_ixV (i := 0) W.hK rfl (by first | exact .inl rfl | exact .inr (.inl rfl) | exact .inr (.inr rfl)) pe_intD (fun _ _ => rfl)) pe_intD) (pe_opD op_mulD (pe_varD (i := 3) rfl (by first | exact .inl rfl | exact .inr (.inl rfl) | exact .inr (.inr rfl))) pe_intD)) pe_intD) pa_nilD)) pe_intD) pe_intD)
  (pss_oneD (ps_ifD (pt_cmpD (op_geB W.hK hr.units) (pe_varD (i := 3) rfl (by first | exact .inl rfl | exact .inr (.inl rfl) | exact .inr (.inr rfl))) (pe_opD op_powD pe_intD pe_intD))
    (pss_oneD (ps_subD (i := 0) rfl (by first | exact .inl rfl | exact .inr (.inl rfl) | exact .inr (.inr rfl)) (pe_varD (i := 3) rfl (by first | exact .inl rfl | exact .inr (.inl rfl) | exact .inr (.inr rfl))) pe_intD))
    pss_nilD)))))
    pss_nilD)
  (pss_consD (ps_ifD (pt_cmpD (op_gtB W.hK hr.units) (pe_ixV (i := 0) W.hK rfl (by first | exact .inl rfl | exact .inr (.inl rfl) | exact .inr (.inr rfl)) pe_intD (fun _ _ => rfl)) pe_intD)
    (pss_consD (ps_setD (i := 4) nd rfl (by first | exact .inl rfl | exact .inr rfl) (pe_opD op_modD (pe_callTyD call_intD rfl W.free_int boot_int (pa_consD (pe_ixV (i := 0) W.hK rfl (by first | exact .inl rfl | exact .inr (.inl rfl) | exact .inr (.inr rfl)) pe_intD (fun _ _ => rfl)) pa_nilD)) (pe_varD (i := 1) rfl (by first | exact .inl rfl | exact .inr (.inl rfl) | exact .inr (.inr rfl)))) rfl (by first | exact .inl rfl | exact .inr rfl))
  (pss_consD (ps_subD (i := 0) rfl (by first | exact .inl rfl | exact .inr (.inl rfl) | exact .inr (.inr rfl)) (pe_opD op_divD (pe_ixV (i := 0) W.hK rfl (by first | exact .inl rfl | exact .inr (.inl rfl) | exact .inr (.inr rfl)) pe_intD (fun _ _ => rfl)) (pe_varD (i := 1) rfl (by first | exact .inl rfl | exact .inr (.inl rfl) | exact .inr (.inr rfl)))) pe_intD)
  (pss_oneD (ps_retVD (i := 4) rfl (by first | exact .inl rfl | exact .inr (.inl rfl) | exact .inr (.inr rfl))))))
    pss_nilD)
  (pss_consD (ps_subD (i := 0) rfl (by first | exact .inl rfl | exact .inr (.inl rfl) | exact .inr (.inr rfl)) (pe_opD (op_addD W.hK) (pe_ixV (i := 0) W.hK rfl (by first | exact .inl rfl | exact .inr (.inl rfl) | exact .inr (.inr rfl)) pe_intD (fun _ _ => rfl)) pe_intD) pe_intD)
  (pss_consD (ps_setD (i := 2) nd rfl (by first | exact .inl rfl | exact .inr rfl) (pe_opD op_modD (pe_callTyD call_intD rfl W.free_int boot_int (pa_consD (pe_opD op_mulD (pe_callTyD call_intD rfl W.free_int boot_int (pa_consD (pe_opD (op_addD W.hK) (pe_ixV (i := 0) W.hK rfl (by first | exact .inl rfl | exact .inr (.inl rfl) | exact .inr (.inr rfl)) pe_intD (fun _ _ => rfl)) (pe_opD op_mulD pe_intD (pe_ixV (i := 0) W.hK rfl (by first | exact .inl rfl | exact .inr (.inl rfl) | exact .inr (.inr rfl)) pe_intD (fun _ _ => rfl)))) pa_nilD)) pe_intD) pa_nilD)) pe_intD) rfl (by first | exact .inl rfl | exact .inr rfl))
  (pss_consD (ps_setD (i := 2) nd rfl (by first | exact .inl rfl | exact .inr rfl) (pe_opD op_modD (pe_callTyD call_intD rfl W.free_int boot_int (pa_consD (pe_opD op_mulD (pe_varD (i := 2) rfl (by first | exact .inl rfl | exact .inr (.inl rfl) | exact .inr (.inr rfl))) (pe_opD (op_addD W.hK) (pe_opD op_divD (pe_varD (i := 2) rfl (by first | exact .inl rfl | exact .inr (.inl rfl) | exact .inr (.inr rfl))) pe_intD) pe_intD)) pa_nilD)) pe_intD) rfl (by first | exact .inl rfl | exact .inr rfl))
  (pss_consD (ps_setD (i := 2) nd rfl (by first | exact .inl rfl | exact .inr rfl) (pe_opD op_modD (pe_callTyD call_intD rfl W.free_int boot_int (pa_consD (pe_opD op_mulD (pe_varD (i := 2) rfl (by first | exact .inl rfl | exact .inr (.inl rfl) | exact .inr (.inr rfl))) (pe_opD (op_addD W.hK) (pe_opD op_divD (pe_varD (i := 2) rfl (by first | exact .inl rfl | exact .inr (.inl rfl) | exact .inr (.inr rfl))) pe_intD) pe_intD)) pa_nilD)) pe_intD) rfl (by first | exact .inl rfl | exact .inr rfl))
  (pss_oneD (ps_retD (pe_opD op_modD (pe_callTyD call_intD rfl W.free_int boot_int (pa_consD (pe_opD op_divD (pe_varD (i := 2) rfl (by first | exact .inl rfl | exact .inr (.inl rfl) | exact .inr (.inr rfl))) pe_intD) pa_nilD)) (pe_varD (i := 1) rfl (by first | exact .inl rfl | exact .inr (.inl rfl) | exact .inr (.inr rfl))))))))))))
def N__law_any : List Str := ["hand", "some"]
def m__law_any : DF := defD 2 2 false
  (sRet false (eOp ixD (eVar 1) (eCall m__law_draw (eCons (eVar 0) (eCons (eArgs lenD (eCons (eVar 1) eNil)) eNil)))))
theorem sc__law_any : FnScope N__law_any ["hand", "some"] (defScope s__law_any) := ⟨rfl, rfl, rfl, by decide +kernel, rfl, by decide +kernel, by decide +kernel⟩
theorem ok__law_any (W : Wd P w K mg base G xc T fdf fI fdI cc tt) : FnOk P w K mg base (L2.CX P w) 2 (G.fa 26) (fdf 26) ["hand", "some"] (spD G xc T 2 false m__law_any) :=
  okD W.d__law_any sc__law_any rfl (by decide) fun cdv A outer s H E L Z hr => by
  have nd := sc__law_any.nd
  exact (pss_oneD (ps_retD (pe_ixD (ix_D W.hK) (pe_varD (i := 1) rfl (by first | exact .inl rfl | exact .inr (.inl rfl) | exact .inr (.inr rfl))) (pe_callD (ok__law_draw W) (hr.mono (by decide)) rfl W.g__law_draw W.k__law_draw W.b__law_draw (passes_call (takes_of rfl rfl rfl rfl) fun _ _ _ _ h => h) rfl rfl rfl defD_len (pa_consD (pe_varD (i := 0) rfl (by first | exact .inl rfl | exact .inr (.inl rfl) | exact .inr (.inr rfl))) (pa_consD (pe_callBD (call_lenD' W.hK) rfl W.free_len boot_len (pa_consD (pe_varD (i := 1) rfl (by first | exact .inl rfl | exact .inr (.inl rfl) | exact .inr (.inr rfl))) pa_nilD)) pa_nilD))) (fun _ _ => rfl))))
def b1__law_league : DS := (sSeq (sSet 7 (List.range 10) false (eCall m__law_draw (eCons (eVar 0) (eCons (eVar 5) eNil))))
  (sSeq (sSet 8 (((([7] ++ []) ++ (List.range 10)) ++ []) ++ [5]) true (eOp modD (eArgs intD (eCons (eOp addD (eOp addD (eVar 7) (eC (.int 1))) (eCall m__law_draw (eCons (eVar 0) (eCons (eOp subD (eVar 5) (eC (.int 1))) eNil)))) eNil)) (eVar 5)))
  (sApp 6 (([7] ++ ([8] ++ [])) ++ (([7] ++ ([8] ++ [])) ++ [])) false (eTup (eCons (eArgs min2D (eCons (eVar 7) (eCons (eVar 8) eNil))) (eCons (eArgs max2D (eCons (eVar 7) (eCons (eVar 8) eNil))) eNil))))))
def c1__law_league : DE := (eLc (iSeq (eVar 6)) [9] (gN 9) (bdLast cYes (eIf (eB (eOp ltB (eCall m__law_draw (eCons (eVar 0) (eCons (eC (.int 10)) eNil))) (eVar 2))) (eC .none) (eCall m__law_draw (eCons (eVar 0) (eCons (eC (.int 2)) eNil))))))
def N__law_league : List Str := ["hand", "most", "share", "turn", "results", "teams", "games", "one", "other", "game"]
def m__law_league : DF := defD 10 3 false
  (sSeq (sPar 5 ([] ++ (List.range 10)) true (eOp addD (eC (.int 1)) (eCall m__law_draw (eCons (eVar 0) (eCons (eC (.int 5)) eNil)))) 6 [] true (eLst eNil))
  (sSeq (sFor [] (iArgs rng1Of (eCons (eIf (eB (eOp gtB (eVar 5) (eC (.int 1)))) (eCall m__law_draw (eCons (eVar 0) (eCons (eOp addD (eVar 1) (eC (.int 1))) eNil))) (eC (.int 0))) eNil)) (gN 3)
    b1__law_league)
  (sSeq (sSet 4 ((List.range 10) ++ []) false (eArgs tupleD (eCons c1__law_league eNil)))
  (sRet false (eTup (eCons (eVar 5) (eCons (eArgs tupleD (eCons (eVar 6) eNil)) (eCons (eVar 4) eNil))))))))
theorem sc__law_league : FnScope N__law_league ["hand", "most", "share"] (defScope s__law_league) := ⟨rfl, rfl, rfl, by decide +kernel, rfl, by decide +kernel, by decide +kernel⟩
theorem ok__law_league (W : Wd P w K mg base G xc T fdf fI fdI cc tt) : FnOk P w K mg base (L2.CX P w) 2 (G.fa 27) (fdf 27) ["hand", "most", "share"] (spD G xc T 3 false m__law_league) :=
  okD W.d__law_league sc__law_league rfl (by decide) fun cdv A outer s H E L Z hr => by
  have nd := sc__law_league.nd
  exact (pss_consD (ps_parD (i := 5) (j := 6) rfl nd rfl rfl (by decide) rfl rfl (pe_opD (op_addD W.hK) pe_intD (pe_callD (ok__law_draw W) (hr.mono (by decide)) rfl W.g__law_draw W.k__law_draw W.b__law_draw (passes_call (takes_of rfl rfl rfl rfl) fun _ _ _ _ h => h) rfl rfl rfl defD_len (pa_consD (pe_varD (i := 0) rfl (by first | exact .inl rfl | exact .inr (.inl rfl) | exact .inr (.inr rfl))) (pa_consD pe_intD pa_nilD)))) (pe_lstD pa_nilD) rfl)
  (pss_consD (ps_forD (M := []) (passes_of rfl) rfl (pi_rng1D rfl W.free_range (pa_consD (pe_ifD (pt_cmpD (op_gtB W.hK hr.units) (pe_varD (i := 5) rfl (by first | exact .inl rfl | exact .inr (.inl rfl) | exact .inr (.inr rfl))) pe_intD) (pe_callD (ok__law_draw W) (hr.mono (by decide)) rfl W.g__law_draw W.k__law_draw W.b__law_draw (passes_call (takes_of rfl rfl rfl rfl) fun _ _ _ _ h => h) rfl rfl rfl defD_len (pa_consD (pe_varD (i := 0) rfl (by first | exact .inl rfl | exact .inr (.inl rfl) | exact .inr (.inr rfl))) (pa_consD (pe_opD (op_addD W.hK) (pe_varD (i := 1) rfl (by first | exact .inl rfl | exact .inr (.inl rfl) | exact .inr (.inr rfl))) pe_intD) pa_nilD))) pe_intD) pa_nilD)) (pg_nameD (i := 3) nd rfl (by first | exact .inl rfl | exact .inr rfl) (by first | exact .inl rfl | exact .inr rfl))
    (pss_consD (ps_setD (i := 7) nd rfl (by first | exact .inl rfl | exact .inr rfl) (pe_callD (ok__law_draw W) (hr.mono (by decide)) rfl W.g__law_draw W.k__law_draw W.b__law_draw (passes_call (takes_of rfl rfl rfl rfl) fun _ _ _ _ h => h) rfl rfl rfl defD_len (pa_consD (pe_varD (i := 0) rfl (by first | exact .inl rfl | exact .inr (.inl rfl) | exact .inr (.inr rfl))) (pa_consD (pe_varD (i := 5) rfl (by first | exact .inl rfl | exact .inr (.inl rfl) | exact .inr (.inr rfl))) pa_nilD))) rfl (by first | exact .inl rfl | exact .inr rfl))
  (pss_consD (ps_setD (i := 8) nd rfl (by first | exact .inl rfl | exact .inr rfl) (pe_opD op_modD (pe_callTyD call_intD rfl W.free_int boot_int (pa_consD (pe_opD (op_addD W.hK) (pe_opD (op_addD W.hK) (pe_varD (i := 7) rfl (by first | exact .inl rfl | exact .inr (.inl rfl) | exact .inr (.inr rfl))) pe_intD) (pe_callD (ok__law_draw W) (hr.mono (by decide)) rfl W.g__law_draw W.k__law_draw W.b__law_draw (passes_call (takes_of rfl rfl rfl rfl) fun _ _ _ _ h => h) rfl rfl rfl defD_len (pa_consD (pe_varD (i := 0) rfl (by first | exact .inl rfl | exact .inr (.inl rfl) | exact .inr (.inr rfl))) (pa_consD (pe_opD op_subD (pe_varD (i := 5) rfl (by first | exact .inl rfl | exact .inr (.inl rfl) | exact .inr (.inr rfl))) pe_intD) pa_nilD)))) pa_nilD)) (pe_varD (i := 5) rfl (by first | exact .inl rfl | exact .inr (.inl rfl) | exact .inr (.inr rfl)))) rfl (by first | exact .inl rfl | exact .inr rfl))
  (pss_oneD (ps_appD (i := 6) rfl (by first | exact .inl rfl | exact .inr (.inl rfl) | exact .inr (.inr rfl)) (pe_tupD (pa_consD (pe_callBD (call_min2D rfl) rfl W.free_min boot_min (pa_consD (pe_varD (i := 7) rfl (by first | exact .inl rfl | exact .inr (.inl rfl) | exact .inr (.inr rfl))) (pa_consD (pe_varD (i := 8) rfl (by first | exact .inl rfl | exact .inr (.inl rfl) | exact .inr (.inr rfl))) pa_nilD))) (pa_consD (pe_callBD (call_max2D rfl) rfl W.free_max boot_max (pa_consD (pe_varD (i := 7) rfl (by first | exact .inl rfl | exact .inr (.inl rfl) | exact .inr (.inr rfl))) (pa_consD (pe_varD (i := 8) rfl (by first | exact .inl rfl | exact .inr (.inl rfl) | exact .inr (.inr rfl))) pa_nilD))) pa_nilD))))))))
  (pss_consD (ps_setD (i := 4) nd rfl (by first | exact .inl rfl | exact .inr rfl) (pe_callTyD (call_tupleD W.hK) rfl W.free_tuple boot_tuple (pa_consD (pe_lcD (own := [(("game" : Str), 9)]) rfl nd (pi_seqD (pe_varD (i := 6) rfl (by first | exact .inl rfl | exact .inr (.inl rfl) | exact .inr (.inr rfl))) W.hK) (blkOk_by (by kernel_rfl)) (by decide) (fun Z _ _ _ _ _ => (pg_nameD (i := 9) nd rfl (by first | exact .inl rfl | exact .inr rfl) (by first | exact .inl rfl | exact .inr rfl))) (fun Z _ _ _ _ _ => pts_nilD) (fun Z _ _ _ _ _ => (pe_ifD (pt_cmpD (op_ltB W.hK hr.units) (pe_callD (ok__law_draw W) (hr.mono (by decide)) rfl W.g__law_draw W.k__law_draw W.b__law_draw passL rfl rfl rfl defD_len (pa_consD (pe_varD (i := 0) rfl (by first | exact .inl rfl | exact .inr (.inl rfl) | exact .inr (.inr rfl))) (pa_consD pe_intD pa_nilD))) (pe_varD (i := 2) rfl (by first | exact .inl rfl | exact .inr (.inl rfl) | exact .inr (.inr rfl)))) pe_noneD (pe_callD (ok__law_draw W) (hr.mono (by decide)) rfl W.g__law_draw W.k__law_draw W.b__law_draw passL rfl rfl rfl defD_len (pa_consD (pe_varD (i := 0) rfl (by first | exact .inl rfl | exact .inr (.inl rfl) | exact .inr (.inr rfl))) (pa_consD pe_intD pa_nilD)))))) pa_nilD)) rfl (by first | exact .inl rfl | exact .inr rfl))
  (pss_oneD (ps_retD (pe_tupD (pa_consD (pe_varD (i := 5) rfl (by first | exact .inl rfl | exact .inr (.inl rfl) | exact .inr (.inr rfl))) (pa_consD (pe_callTyD (call_tupleD W.hK) rfl W.free_tuple boot_tuple (pa_consD (pe_varD (i := 6) rfl (by first | exact .inl rfl | exact .inr (.inl rfl) | exact .inr (.inr rfl))) pa_nilD)) (pa_consD (pe_varD (i := 4) rfl (by first | exact .inl rfl | exact .inr (.inl rfl) | exact .inr (.inr rfl))) pa_nilD)))))))))
def c1__law_orders : DE := (eLc (iArgs rng1Of (eCons (eVar 0) eNil)) [5] (gN 5) (bdLast (eB (eOp notInD (eVar 5) (eVar 4))) (eOp addD (eVar 4) (eTup (eCons (eVar 5) eNil)))))
def b1__law_orders : DS := (sExtB 3 (List.range 6) true c1__law_orders)
def b2__law_orders : DS := (sSeq (sSet 3 [] true (eLst eNil))
  (sSeq (sFor [1] (iSeq (eVar 1)) (gN 4)
    b1__law_orders)
  (sMove 1 3)))
def N__law_orders : List Str := ["many", "found", "turn", "longer", "line", "one"]
def m__law_orders : DF := defD 6 1 true
  (sSeq (sSet 1 ([] ++ []) true (eLst (eCons (eTup eNil) eNil)))
  (sSeq (sFor [] (iArgs rng1Of (eCons (eVar 0) eNil)) (gN 2)
    b2__law_orders)
  (sRetV 1)))
theorem sc__law_orders : FnScope N__law_orders ["many"] (defScope s__law_orders) := ⟨rfl, rfl, rfl, by decide +kernel, rfl, by decide +kernel, by decide +kernel⟩
theorem ok__law_orders (W : Wd P w K mg base G xc T fdf fI fdI cc tt) : FnOk P w K mg base (L2.CX P w) 1 (G.fa 28) (fdf 28) ["many"] (spD G xc T 1 true m__law_orders) :=
  okD W.d__law_orders sc__law_orders rfl (by decide) fun cdv A outer s H E L Z hr => by
  have nd := sc__law_orders.nd
  exact (pss_consD (ps_setD (i := 1) nd rfl (by first | exact .inl rfl | exact .inr rfl) (pe_lstD (pa_consD (pe_tupD pa_nilD) pa_nilD)) rfl (by first | exact .inl rfl | exact .inr rfl))
  (pss_consD (ps_forD (M := []) (passes_of rfl) rfl (pi_rng1D rfl W.free_range (pa_consD (pe_varD (i := 0) rfl (by first | exact .inl rfl | exact .inr (.inl rfl) | exact .inr (.inr rfl))) pa_nilD)) (pg_nameD (i := 2) nd rfl (by first | exact .inl rfl | exact .inr rfl) (by first | exact .inl rfl | exact .inr rfl))
    (pss_consD (ps_setD (i := 3) nd rfl (by first | exact .inl rfl | exact .inr rfl) (pe_lstD pa_nilD) rfl (by first | exact .inl rfl | exact .inr rfl))
  (pss_consD (ps_forD (M := [1]) (passes_of rfl) rfl (pi_seqD (pe_varD (i := 1) rfl (by first | exact .inl rfl | exact .inr (.inl rfl) | exact .inr (.inr rfl))) W.hK) (pg_nameD (i := 4) nd rfl (by first | exact .inl rfl | exact .inr rfl) (by first | exact .inl rfl | exact .inr rfl))
    (pss_oneD (ps_extBD (i := 3) W.hK rfl (by first | exact .inl rfl | exact .inr (.inl rfl) | exact .inr (.inr rfl)) (pe_lcD (own := [(("one" : Str), 5)]) rfl nd (pi_rng1D rfl W.free_range (pa_consD (pe_varD (i := 0) rfl (by first | exact .inl rfl | exact .inr (.inl rfl) | exact .inr (.inr rfl))) pa_nilD)) (blkOk_by (by kernel_rfl)) (by decide) (fun Z _ _ _ _ _ => (pg_nameD (i := 5) nd rfl (by first | exact .inl rfl | exact .inr rfl) (by first | exact .inl rfl | exact .inr rfl))) (fun Z _ _ _ _ _ => (pts_oneD (pt_cmpD (op_notInDD W.hK (un65 hr)) (pe_varD (i := 5) rfl (by first | exact .inl rfl | exact .inr (.inl rfl) | exact .inr (.inr rfl))) (pe_varD (i := 4) rfl (by first | exact .inl rfl | exact .inr (.inl rfl) | exact .inr (.inr rfl)))))) (fun Z _ _ _ _ _ => (pe_opD (op_addD W.hK) (pe_varD (i := 4) rfl (by first | exact .inl rfl | exact .inr (.inl rfl) | exact .inr (.inr rfl))) (pe_tupD (pa_consD (pe_varD (i := 5) rfl (by first | exact .inl rfl | exact .inr (.inl rfl) | exact .inr (.inr rfl))) pa_nilD))))))))
  (pss_oneD (ps_moveD (i := 1) (j := 3) nd rfl (by first | exact .inl rfl | exact .inr rfl) rfl (by first | exact .inl rfl | exact .inr (.inl rfl) | exact .inr (.inr rfl)))))))
  (pss_oneD (ps_retVD (i := 1) rfl (by first | exact .inl rfl | exact .inr (.inl rfl) | exact .inr (.inr rfl))))))
def b1__law_upsets : DS := (sIf (bAnd (eB (eOp isnD (eVar 5) (eC .none))) (eB (eOp gtB (eMth indexL (eVar 2) (eOp ixD (eOp ixD (eVar 0) (eVar 4)) (eVar 5))) (eMth indexL (eVar 2) (eOp ixD (eOp ixD (eVar 0) (eVar 4)) (eOp subD (eC (.int 1)) (eVar 5)))))))
    (sApp 3 [4] false (eVar 4))
    sNext)
def N__law_upsets : List Str := ["games", "results", "line", "found", "game", "side"]
def m__law_upsets : DF := defD 6 3 false
  (sSeq (sSet 3 [] true (eLst eNil))
  (sSeq (sFor ([1] ++ []) (iArgs enuOf (eCons (eVar 1) eNil)) (gTp (gCn (gN 4) (gCn (gN 5) gNl)))
    b1__law_upsets)
  (sRet false (eArgs tupleD (eCons (eVar 3) eNil)))))
theorem sc__law_upsets : FnScope N__law_upsets ["games", "results", "line"] (defScope s__law_upsets) := ⟨rfl, rfl, rfl, by decide +kernel, rfl, by decide +kernel, by decide +kernel⟩
theorem ok__law_upsets (W : Wd P w K mg base G xc T fdf fI fdI cc tt) : FnOk P w K mg base (L2.CX P w) 1 (G.fa 29) (fdf 29) ["games", "results", "line"] (spD G xc T 3 false m__law_upsets) :=
  okD W.d__law_upsets sc__law_upsets rfl (by decide) fun cdv A outer s H E L Z hr => by
  have nd := sc__law_upsets.nd
  exact (pss_consD (ps_setD (i := 3) nd rfl (by first | exact .inl rfl | exact .inr rfl) (pe_lstD pa_nilD) rfl (by first | exact .inl rfl | exact .inr rfl))
  (pss_consD (ps_forD (M := ([1] ++ [])) (passes_of rfl) rfl (pi_enuD W.hK rfl W.free_enumerate (pa_consD (pe_varD (i := 1) rfl (by first | exact .inl rfl | exact .inr (.inl rfl) | exact .inr (.inr rfl))) pa_nilD)) (pg_tupD W.hK rfl (pgs_consD (pg_nameD (i := 4) nd rfl (by first | exact .inl rfl | exact .inr rfl) (by first | exact .inl rfl | exact .inr rfl)) (pgs_consD (pg_nameD (i := 5) nd rfl (by first | exact .inl rfl | exact .inr rfl) (by first | exact .inl rfl | exact .inr rfl)) pgs_nilD)) (len_cn (len_cn (fun _ _ _ h => len_nl h))))
    (pss_oneD (ps_ifD (PW.pt (pw_andD (pt_cmpD op_isnD (pe_varD (i := 5) rfl (by first | exact .inl rfl | exact .inr (.inl rfl) | exact .inr (.inr rfl))) pe_noneD) (pw_and1D (pt_cmpD (op_gtB W.hK hr.units) (pe_indexD W.hK (un66 hr) (pe_varD (i := 2) rfl (by first | exact .inl rfl | exact .inr (.inl rfl) | exact .inr (.inr rfl))) (pe_ixD (ix_D W.hK) (pe_ixD (ix_D W.hK) (pe_varD (i := 0) rfl (by first | exact .inl rfl | exact .inr (.inl rfl) | exact .inr (.inr rfl))) (pe_varD (i := 4) rfl (by first | exact .inl rfl | exact .inr (.inl rfl) | exact .inr (.inr rfl))) (fun _ _ => rfl)) (pe_varD (i := 5) rfl (by first | exact .inl rfl | exact .inr (.inl rfl) | exact .inr (.inr rfl))) (fun _ _ => rfl))) (pe_indexD W.hK (un66 hr) (pe_varD (i := 2) rfl (by first | exact .inl rfl | exact .inr (.inl rfl) | exact .inr (.inr rfl))) (pe_ixD (ix_D W.hK) (pe_ixD (ix_D W.hK) (pe_varD (i := 0) rfl (by first | exact .inl rfl | exact .inr (.inl rfl) | exact .inr (.inr rfl))) (pe_varD (i := 4) rfl (by first | exact .inl rfl | exact .inr (.inl rfl) | exact .inr (.inr rfl))) (fun _ _ => rfl)) (pe_opD op_subD pe_intD (pe_varD (i := 5) rfl (by first | exact .inl rfl | exact .inr (.inl rfl) | exact .inr (.inr rfl)))) (fun _ _ => rfl)))))))
    (pss_oneD (ps_appD (i := 3) rfl (by first | exact .inl rfl | exact .inr (.inl rfl) | exact .inr (.inr rfl)) (pe_varD (i := 4) rfl (by first | exact .inl rfl | exact .inr (.inl rfl) | exact .inr (.inr rfl)))))
    pss_nilD)))
  (pss_oneD (ps_retD (pe_callTyD (call_tupleD W.hK) rfl W.free_tuple boot_tuple (pa_consD (pe_varD (i := 3) rfl (by first | exact .inl rfl | exact .inr (.inl rfl) | exact .inr (.inr rfl))) pa_nilD))))))
def N__law_bent : List Str := ["hand", "line", "at", "odd", "things"]
def m__law_bent : DF := defD 5 2 false
  (sSeq (sSet 2 (List.range 5) false (eCall m__law_draw (eCons (eVar 0) (eCons (eArgs lenD (eCons (eVar 1) eNil)) eNil))))
  (sSeq (sSet 3 (List.range 5) false (eCall m__law_any (eCons (eVar 0) (eCons (eLst (eCons (eArgs lenD (eCons (eVar 1) eNil)) (eCons (eUn negD (eC (.int 1))) (eCons (eC .none) (eCons (eC (.bool true)) (eCons (eC (.str ("0" : Str))) (eCons (eTup (eCons (eC (.int 0)) eNil)) (eCons (eLst (eCons (eC (.int 0)) eNil)) (eCons (eC (.dict [])) eNil))))))))) eNil))))
  (sSeq (sSet 4 ((([1] ++ ([3] ++ [])) ++ [1]) ++ ([1] ++ (([1] ++ [1]) ++ (([1] ++ []) ++ ([] ++ ([] ++ ([] ++ ([] ++ (([1] ++ []) ++ []))))))))) true (eLst (eCons (eOp addD (eOp addD (eSl (eVar 1) oNone (oSome (eVar 2))) (eTup (eCons (eVar 3) eNil))) (eSl (eVar 1) (oSome (eOp addD (eVar 2) (eC (.int 1)))) oNone)) (eCons (eSl (eVar 1) (oSome (eC (.int 1))) oNone) (eCons (eOp addD (eVar 1) (eSl (eVar 1) oNone (oSome (eC (.int 1))))) (eCons (eArgs listD (eCons (eVar 1) eNil)) (eCons (eC .none) (eCons (eC (.int 0)) (eCons (eC (.dict [])) (eCons (eC (.str ("0" : Str))) (eCons (eTup (eCons (eVar 1) eNil)) eNil)))))))))))
  (sRet false (eCall m__law_any (eCons (eVar 0) (eCons (eVar 4) eNil)))))))
theorem sc__law_bent : FnScope N__law_bent ["hand", "line"] (defScope s__law_bent) := ⟨rfl, rfl, rfl, by decide +kernel, rfl, by decide +kernel, by decide +kernel⟩
theorem ok__law_bent (W : Wd P w K mg base G xc T fdf fI fdI cc tt) : FnOk P w K mg base (L2.CX P w) 3 (G.fa 30) (fdf 30) ["hand", "line"] (spD G xc T 2 false m__law_bent) :=
  okD W.d__law_bent sc__law_bent rfl (by decide) fun cdv A outer s H E L Z hr => by
  have nd := sc__law_bent.nd
  exact (pss_consD (ps_setD (i := 2) nd rfl (by first | exact .inl rfl | exact .inr rfl) (pe_callD (ok__law_draw W) (hr.mono (by decide)) rfl W.g__law_draw W.k__law_draw W.b__law_draw (passes_call (takes_of rfl rfl rfl rfl) fun _ _ _ _ h => h) rfl rfl rfl defD_len (pa_consD (pe_varD (i := 0) rfl (by first | exact .inl rfl | exact .inr (.inl rfl) | exact .inr (.inr rfl))) (pa_consD (pe_callBD (call_lenD' W.hK) rfl W.free_len boot_len (pa_consD (pe_varD (i := 1) rfl (by first | exact .inl rfl | exact .inr (.inl rfl) | exact .inr (.inr rfl))) pa_nilD)) pa_nilD))) rfl (by first | exact .inl rfl | exact .inr rfl))
  (pss_consD (ps_setD (i := 3) nd rfl (by first | exact .inl rfl | exact .inr rfl) (pe_callD (ok__law_any W) (hr.mono (by decide)) rfl W.g__law_any W.k__law_any W.b__law_any (passes_call (takes_of rfl rfl rfl rfl) fun _ _ _ _ h => h) rfl rfl rfl defD_len (pa_consD (pe_varD (i := 0) rfl (by first | exact .inl rfl | exact .inr (.inl rfl) | exact .inr (.inr rfl))) (pa_consD (pe_lstD (pa_consD (pe_callBD (call_lenD' W.hK) rfl W.free_len boot_len (pa_consD (pe_varD (i := 1) rfl (by first | exact .inl rfl | exact .inr (.inl rfl) | exact .inr (.inr rfl))) pa_nilD)) (pa_consD (pe_unD un_negD pe_intD) (pa_consD pe_noneD (pa_consD pe_boolD (pa_consD pe_strD (pa_consD (pe_tupD (pa_consD pe_intD pa_nilD)) (pa_consD (pe_lstD (pa_consD pe_intD pa_nilD)) (pa_consD pe_dict0D pa_nilD))))))))) pa_nilD))) rfl (by first | exact .inl rfl | exact .inr rfl))
  (pss_consD (ps_setD (i := 4) nd rfl (by first | exact .inl rfl | exact .inr rfl) (pe_lstD (pa_consD (pe_opD (op_addD W.hK) (pe_opD (op_addD W.hK) (pe_slD W.hK (pe_varD (i := 1) rfl (by first | exact .inl rfl | exact .inr (.inl rfl) | exact .inr (.inr rfl))) po_noneD (po_someD (pe_varD (i := 2) rfl (by first | exact .inl rfl | exact .inr (.inl rfl) | exact .inr (.inr rfl))))) (pe_tupD (pa_consD (pe_varD (i := 3) rfl (by first | exact .inl rfl | exact .inr (.inl rfl) | exact .inr (.inr rfl))) pa_nilD))) (pe_slD W.hK (pe_varD (i := 1) rfl (by first | exact .inl rfl | exact .inr (.inl rfl) | exact .inr (.inr rfl))) (po_someD (pe_opD (op_addD W.hK) (pe_varD (i := 2) rfl (by first | exact .inl rfl | exact .inr (.inl rfl) | exact .inr (.inr rfl))) pe_intD)) po_noneD)) (pa_consD (pe_slD W.hK (pe_varD (i := 1) rfl (by first | exact .inl rfl | exact .inr (.inl rfl) | exact .inr (.inr rfl))) (po_someD pe_intD) po_noneD) (pa_consD (pe_opD (op_addD W.hK) (pe_varD (i := 1) rfl (by first | exact .inl rfl | exact .inr (.inl rfl) | exact .inr (.inr rfl))) (pe_slD W.hK (pe_varD (i := 1) rfl (by first | exact .inl rfl | exact .inr (.inl rfl) | exact .inr (.inr rfl))) po_noneD (po_someD pe_intD))) (pa_consD (pe_callTyD (call_listD W.hK) rfl W.free_list boot_list (pa_consD (pe_varD (i := 1) rfl (by first | exact .inl rfl | exact .inr (.inl rfl) | exact .inr (.inr rfl))) pa_nilD)) (pa_consD pe_noneD (pa_consD pe_intD (pa_consD pe_dict0D (pa_consD pe_strD (pa_consD (pe_tupD (pa_consD (pe_varD (i := 1) rfl (by first | exact .inl rfl | exact .inr (.inl rfl) | exact .inr (.inr rfl))) pa_nilD)) pa_nilD)))))))))) rfl (by first | exact .inl rfl | exact .inr rfl))
  (pss_oneD (ps_retD (pe_callD (ok__law_any W) (hr.mono (by decide)) rfl W.g__law_any W.k__law_any W.b__law_any (passes_call (takes_of rfl rfl rfl rfl) fun _ _ _ _ h => h) rfl rfl rfl defD_len (pa_consD (pe_varD (i := 0) rfl (by first | exact .inl rfl | exact .inr (.inl rfl) | exact .inr (.inr rfl))) (pa_consD (pe_varD (i := 4) rfl (by first | exact .inl rfl | exact .inr (.inl rfl) | exact .inr (.inr rfl))) pa_nilD))))))))
def N__law_word : List Str := ["call", "error", "flags"]
theorem sc__law_word : FnScope N__law_word ["call"] (defScope s__law_word) := ⟨rfl, rfl, rfl, by decide +kernel, rfl, by decide +kernel, by decide +kernel⟩
def sd__law_word (a c : Nat) : DS :=
  (sSeq (sSet 2 ([] ++ ([] ++ ([] ++ []))) true (eLst (eCons (eIsE a 1 (c == 4)) (eCons (eIsE a 1 (c == 3)) (eCons (eIsE a 1 (c == 2)) eNil)))))
  (sSeq (sIf (bOr (eB (eOp neD (eMth countL (eVar 2) (eC (.bool true))) (eC (.int 1)))) (bNot (eB (eIsE a 1 true))))
    (sRet false (eC (.str ("other" : Str))))
    sNext)
  (sRet false (eOp ixD (eLst (eCons (eC (.str ("league" : Str))) (eCons (eC (.str ("results" : Str))) (eCons (eC (.str ("order" : Str))) eNil)))) (eMth indexL (eVar 2) (eC (.bool true)))))))
def wt__law_word (x : Exn) : Option PyData := if x.fs.isEmpty = true then (if x.cls = 2 then some (.str ("order" : Str)) else if x.cls = 3 then some (.str ("results" : Str)) else if x.cls = 4 then some (.str ("league" : Str)) else none) else none
theorem wh__law_word : ∀ (a : Nat) (x : Exn) (st : Store) (d : PyData), wt__law_word x = some d → x.cls ∈ exl ∧ x.fs = [] ∧ wdOf 3 1 sd__law_word a x st = .ok d st := by
  intro a x st d h
  obtain ⟨c, fs⟩ := x
  unfold wt__law_word at h
  split at h
  · rename_i hf
    have hf := List.isEmpty_iff.mp hf
    subst hf
    dsimp only at h
    split at h
    · rename_i hc
      subst hc
      cases h
      refine ⟨by decide, rfl, ?_⟩
      simp [wdOf, sd__law_word, eIsE_s, eIsE_0]
      try rfl
    · skip
      split at h
      · rename_i hc
        subst hc
        cases h
        refine ⟨by decide, rfl, ?_⟩
        simp [wdOf, sd__law_word, eIsE_s, eIsE_0]
        try rfl
      · skip
        split at h
        · rename_i hc
          subst hc
          cases h
          refine ⟨by decide, rfl, ?_⟩
          simp [wdOf, sd__law_word, eIsE_s, eIsE_0]
          try rfl
        · skip
          cases h
  · cases h
theorem wg__law_word {X : Cx} (W : Wd X.prog X.w X.K X.mg base G xc T fdf fI fdI cc tt) (hr : Room 1 X.A) (cdg : Value) (q : Str) : LamX.GivesTo X N__law_word "_law_word" (defScope s__law_word) (G.fa 33) cdg (defBody s__law_word) "call" q (TTw G xc exl T (.str ("told" : Str)) (wdOf 3 1 sd__law_word)) :=
  word_gives (gf := 0) (en := "error") (gn := "GameFault") W.hK W.xo sc__law_word.nd rfl W.g_GameFault rfl (fun _ => rfl) (fun _ => rfl) rfl rfl fun s H F e oe c pn hG hn hc hz hf => by
  have hK : F.G.K = X.K := by rw [hG]; exact W.hK
  have nd := sc__law_word.nd
  exact (pss_consD (ps_setD (i := 2) nd rfl (by first | exact .inl rfl | exact .inr rfl) (pe_lstD (pa_consD (pe_isE (i := 1) (W.xo.c c hc) hz hf rfl W.free_isinstance rfl (by first | exact .inl rfl | exact .inr (.inl rfl) | exact .inr (.inr rfl)) (pe_glob (v := .ref (xc 4)) rfl W.g_NoLeague rfl) (fun _ h => h) (W.xo.kx c 4 hc (by simp [exl]))) (pa_consD (pe_isE (i := 1) (W.xo.c c hc) hz hf rfl W.free_isinstance rfl (by first | exact .inl rfl | exact .inr (.inl rfl) | exact .inr (.inr rfl)) (pe_glob (v := .ref (xc 3)) rfl W.g_BadResults rfl) (fun _ h => h) (W.xo.kx c 3 hc (by simp [exl]))) (pa_consD (pe_isE (i := 1) (W.xo.c c hc) hz hf rfl W.free_isinstance rfl (by first | exact .inl rfl | exact .inr (.inl rfl) | exact .inr (.inr rfl)) (pe_glob (v := .ref (xc 2)) rfl W.g_BadOrder rfl) (fun _ h => h) (W.xo.kx c 2 hc (by simp [exl]))) pa_nilD)))) rfl (by first | exact .inl rfl | exact .inr rfl))
  (pss_consD (ps_ifD (PW.pt (pw_orD (pt_cmpD (op_neDD hK (us hr (by decide))) (pe_countD hK (us hr (by decide)) (pe_varD (i := 2) rfl (by first | exact .inl rfl | exact .inr (.inl rfl) | exact .inr (.inr rfl))) pe_boolD) pe_intD) (pw_or1D (pt_notD (pt_valD (pe_isE (i := 1) (W.xo.c c hc) hz hf rfl W.free_isinstance rfl (by first | exact .inl rfl | exact .inr (.inl rfl) | exact .inr (.inr rfl)) (pe_bltn (v := .ty "ValueError") rfl W.free_ValueError (by decide +kernel) rfl) (fun _ h => h) (W.xo.kv c hc)))))))
    (pss_oneD (ps_retD pe_strD))
    pss_nilD)
  (pss_oneD (ps_retD (pe_ixD (ix_D hK) (pe_lstD (pa_consD pe_strD (pa_consD pe_strD (pa_consD pe_strD pa_nilD)))) (pe_indexD hK (us hr (by decide)) (pe_varD (i := 2) rfl (by first | exact .inl rfl | exact .inr (.inl rfl) | exact .inr (.inr rfl))) pe_boolD) (fun _ _ => rfl))))))
def c1__law_more_right : DE := (eLc (iArgs enuOf (eCons (eVar 2) eNil)) [5, 7] (gTp (gCn (gN 5) (gCn (gN 7) gNl))) (bdLast (eB (eOp isD (eVar 7) (eC .none))) (eVar 5)))
def N__law_more_right : List Str := ["hand", "league", "results", "fewest", "free", "game", "more", "side"]
def m__law_more_right : DF := defD 8 4 false
  (sSeq (sSet 4 (List.range 8) true c1__law_more_right)
  (sSeq (sSet 5 (List.range 8) false (eCall m__law_any (eCons (eVar 0) (eCons (eVar 4) eNil))))
  (sSeq (sSet 6 (([2] ++ ((List.range 8) ++ [])) ++ [2]) true (eOp addD (eOp addD (eSl (eVar 2) oNone (oSome (eVar 5))) (eTup (eCons (eCall m__law_draw (eCons (eVar 0) (eCons (eC (.int 2)) eNil))) eNil))) (eSl (eVar 2) (oSome (eOp addD (eVar 5) (eC (.int 1)))) oNone)))
  (sRet false (eChain leB leB (eVar 3) (eCall m_fewest_upsets (eCons (eVar 1) (eCons (eVar 6) eNil))) (eOp addD (eVar 3) (eC (.int 1))))))))
theorem sc__law_more_right : FnScope N__law_more_right ["hand", "league", "results", "fewest"] (defScope s__law_more_right) := ⟨rfl, rfl, rfl, by decide +kernel, rfl, by decide +kernel, by decide +kernel⟩
theorem ok__law_more_right (W : Wd P w K mg base G xc T fdf fI fdI cc tt) : FnOk P w K mg base (L2.CX P w) 7 (G.fa 32) (fdf 32) ["hand", "league", "results", "fewest"] (spD G xc T 4 false m__law_more_right) :=
  okD W.d__law_more_right sc__law_more_right rfl (by decide) fun cdv A outer s H E L Z hr => by
  have nd := sc__law_more_right.nd
  exact (pss_consD (ps_setLcD (i := 4) (own := [(("game" : Str), 5), (("side" : Str), 7)]) rfl nd rfl rfl (sw_true rfl rfl rfl (by decide +kernel)) (pi_enuD W.hK rfl W.free_enumerate (pa_consD (pe_varD (i := 2) rfl (by first | exact .inl rfl | exact .inr (.inl rfl) | exact .inr (.inr rfl))) pa_nilD)) (blkOk_by (by kernel_rfl)) (by decide) (fun Z _ _ _ _ _ => (pg_tupD W.hK rfl (pgs_consD (pg_nameD (i := 5) nd rfl (by first | exact .inl rfl | exact .inr rfl) (by first | exact .inl rfl | exact .inr rfl)) (pgs_consD (pg_nameD (i := 7) nd rfl (by first | exact .inl rfl | exact .inr rfl) (by first | exact .inl rfl | exact .inr rfl)) pgs_nilD)) (len_cn (len_cn (fun _ _ _ h => len_nl h))))) (fun Z _ _ _ _ _ => (pts_oneD (pt_cmpD op_isD (pe_varD (i := 7) rfl (by first | exact .inl rfl | exact .inr (.inl rfl) | exact .inr (.inr rfl))) pe_noneD))) (fun Z _ _ _ _ _ => (pe_varD (i := 5) rfl (by first | exact .inl rfl | exact .inr (.inl rfl) | exact .inr (.inr rfl)))))
  (pss_consD (ps_setD (i := 5) nd rfl (by first | exact .inl rfl | exact .inr rfl) (pe_callD (ok__law_any W) (hr.mono (by decide)) rfl W.g__law_any W.k__law_any W.b__law_any (passes_call (takes_of rfl rfl rfl rfl) fun _ _ _ _ h => h) rfl rfl rfl defD_len (pa_consD (pe_varD (i := 0) rfl (by first | exact .inl rfl | exact .inr (.inl rfl) | exact .inr (.inr rfl))) (pa_consD (pe_varD (i := 4) rfl (by first | exact .inl rfl | exact .inr (.inl rfl) | exact .inr (.inr rfl))) pa_nilD))) rfl (by first | exact .inl rfl | exact .inr rfl))
  (pss_consD (ps_setD (i := 6) nd rfl (by first | exact .inl rfl | exact .inr rfl) (pe_opD (op_addD W.hK) (pe_opD (op_addD W.hK) (pe_slD W.hK (pe_varD (i := 2) rfl (by first | exact .inl rfl | exact .inr (.inl rfl) | exact .inr (.inr rfl))) po_noneD (po_someD (pe_varD (i := 5) rfl (by first | exact .inl rfl | exact .inr (.inl rfl) | exact .inr (.inr rfl))))) (pe_tupD (pa_consD (pe_callD (ok__law_draw W) (hr.mono (by decide)) rfl W.g__law_draw W.k__law_draw W.b__law_draw (passes_call (takes_of rfl rfl rfl rfl) fun _ _ _ _ h => h) rfl rfl rfl defD_len (pa_consD (pe_varD (i := 0) rfl (by first | exact .inl rfl | exact .inr (.inl rfl) | exact .inr (.inr rfl))) (pa_consD pe_intD pa_nilD))) pa_nilD))) (pe_slD W.hK (pe_varD (i := 2) rfl (by first | exact .inl rfl | exact .inr (.inl rfl) | exact .inr (.inr rfl))) (po_someD (pe_opD (op_addD W.hK) (pe_varD (i := 5) rfl (by first | exact .inl rfl | exact .inr (.inl rfl) | exact .inr (.inr rfl))) pe_intD)) po_noneD)) rfl (by first | exact .inl rfl | exact .inr rfl))
  (pss_oneD (ps_retD (pe_chainD (op_leB W.hK hr.units) (op_leB W.hK hr.units) (boolB (.inr (.inl rfl))) (boolB (.inr (.inl rfl))) (pe_varD (i := 3) rfl (by first | exact .inl rfl | exact .inr (.inl rfl) | exact .inr (.inr rfl))) (pe_callD (ok_fewest_upsets W) (hr.mono (by decide)) rfl W.g_fewest_upsets W.k_fewest_upsets W.b_fewest_upsets (passes_call (takes_of rfl rfl rfl rfl) fun _ _ _ _ h => h) rfl rfl rfl defD_len (pa_consD (pe_varD (i := 1) rfl (by first | exact .inl rfl | exact .inr (.inl rfl) | exact .inr (.inr rfl))) (pa_consD (pe_varD (i := 6) rfl (by first | exact .inl rfl | exact .inr (.inl rfl) | exact .inr (.inr rfl))) pa_nilD))) (pe_opD (op_addD W.hK) (pe_varD (i := 3) rfl (by first | exact .inl rfl | exact .inr (.inl rfl) | exact .inr (.inr rfl))) pe_intD)))))))
def N_League_init : List Str := ["self", "teams", "games", "at", "pair"]
def b1___init__ : DS := (sIf (bOr (eB (eOp geB (eVar 3) (eC (.int 24)))) (bNot (eB (eCall m_is_pair_of (eCons (eVar 4) (eCons (eVar 1) eNil))))))
    (fun _ _ => .stuck)
    sNext)
def bm_League : DS := (sSeq (sIf (bNot (eB (eCall m_is_within (eCons (eVar 1) (eCons (eC (.int 1)) (eCons (eC (.int 8)) eNil))))))
    (fun _ _ => .stuck)
    sNext)
  (sSeq (sIf (bNot (eB (eUn (isaD "tuple") (eVar 2))))
    (fun _ _ => .stuck)
    sNext)
  (sFor ([2] ++ []) (iArgs enuOf (eCons (eVar 2) eNil)) (gTp (gCn (gN 3) (gCn (gN 4) gNl)))
    b1___init__)))
def pairOk (t : Int) : PyData → Bool
  | .tuple [.int a, .int b] => decide (0 ≤ a ∧ a < b ∧ b < t)
  | _ => false
def leaOk (t : Int) : PyData → Bool
  | .tuple ps => decide (1 ≤ t ∧ t ≤ 8 ∧ ps.length ≤ 24) && ps.all (pairOk t)
  | _ => false
def mk_League : DF := fun ds st => match ds with
  | [.int t, g] => if leaOk t g = true then .ok (lea t g) st else .stuck
  | _ => .stuck
theorem mk_lea : ∀ ds st d st', mk_League ds st = .ok d st' → ∃ t g, d = lea t g := fun ds st d st' h => by
  unfold mk_League at h
  split at h
  · split at h
    · cases h; exact ⟨_, _, rfl⟩
    · cases h
  · cases h
theorem mk_integer (a : Int) (st : Store) : m_is_integer [.int a] st = .ok (.bool true) st := rfl
theorem mk_within (a lo hi : Int) (st : Store) : m_is_within [.int a, .int lo, .int hi] st = .ok (.bool (decide (lo ≤ a) && decide (a ≤ hi))) st := by
  by_cases h : lo ≤ a <;> simp [m_is_within, mk_integer, h]
theorem mk_pair (a b t : Int) (st : Store) (h : 0 ≤ a ∧ a < b ∧ b < t) : m_is_pair_of [.tuple [.int a, .int b], .int t] st = .ok (.bool true) st := by
  have w1 : m_is_within [.int a, .int 0, .int (t - 1)] st = .ok (.bool true) st := by
    rw [mk_within]
    have : decide (0 ≤ a) = true ∧ decide (a ≤ t - 1) = true := by simp; omega
    rw [this.1, this.2]; rfl
  have w2 : m_is_within [.int b, .int 0, .int (t - 1)] st = .ok (.bool true) st := by
    rw [mk_within]
    have : decide (0 ≤ b) = true ∧ decide (b ≤ t - 1) = true := by simp; omega
    rw [this.1, this.2]; rfl
  have c : c1_is_pair_of [some (.tuple [.int a, .int b], false), some (.int t, false), none] st = .ok (.list [.bool true, .bool true]) st := by
    simp [c1_is_pair_of, eLc, lcGo, bdLast, noX, w1, w2]
  have al : allB [.list [.bool true, .bool true]] = some (.bool true) := rfl
  simp [m_is_pair_of, c, al, h.2.1]
theorem mk_ok : ∀ (a : Nat) t g st, mk_League [t, g] st ≠ .stuck → mI 2 bm_League a [t, g] st = mk_League [t, g] st := by
  intro a t g st h
  unfold mk_League at h ⊢
  split at h
  · rename_i t g0 e
    cases e
    split at h
    · rename_i hl
      show mI 2 bm_League a [.int t, g] st = if leaOk t g = true then .ok (lea t g) st else .stuck
      rw [if_pos hl]
      cases g with
      | tuple ps =>
        obtain ⟨h1, h2⟩ := Bool.and_eq_true_iff.mp (show (decide (1 ≤ t ∧ t ≤ 8 ∧ ps.length ≤ 24) && ps.all (pairOk t)) = true from hl)
        have h1 := of_decide_eq_true h1
        have key : ∃ s3 s4, bm_League [some (rawv a, false), some (.int t, false), some (.tuple ps, false), none, none] st = .nx [some (rawv a, false), some (.int t, false), some (.tuple ps, false), s3, s4] st := by
          have e1 : m_is_within [.int t, .int 1, .int 8] st = .ok (.bool true) st := by
            rw [mk_within]
            have : decide (1 ≤ t) = true ∧ decide (t ≤ 8) = true := by simp; omega
            rw [this.1, this.2]; rfl
          have e2 : (sIf (bNot (eB (eCall m_is_within (eCons (eVar 1) (eCons (eC (.int 1)) (eCons (eC (.int 8)) eNil)))))) (fun _ _ => .stuck) sNext) [some (rawv a, false), some (.int t, false), some (.tuple ps, false), none, none] st = .nx [some (rawv a, false), some (.int t, false), some (.tuple ps, false), none, none] st := by
            have : (eCall m_is_within (eCons (eVar 1) (eCons (eC (.int 1)) (eCons (eC (.int 8)) eNil)))) [some (rawv a, false), some (.int t, false), some (.tuple ps, false), none, none] st = .ok (.bool true) st := e1
            simp only [sIf, bNot, eB, this, ER.bind_ok]
            rfl
          have e3 : (sIf (bNot (eB (eUn (isaD "tuple") (eVar 2)))) (fun _ _ => .stuck) sNext) [some (rawv a, false), some (.int t, false), some (.tuple ps, false), none, none] st = .nx [some (rawv a, false), some (.int t, false), some (.tuple ps, false), none, none] st := rfl
          obtain ⟨ρ', st', h4, h5, s3, s4, h6⟩ := forGo_inv (g := gTp (gCn (gN 3) (gCn (gN 4) gNl))) (body := sIf (bOr (eB (eOp geB (eVar 3) (eC (.int 24)))) (bNot (eB (eCall m_is_pair_of (eCons (eVar 4) (eCons (eVar 1) eNil)))))) (fun _ _ => .stuck) sNext)
            (fun _ ρ st' => st' = st ∧ ∃ s3 s4, ρ = [some (rawv a, false), some (.int t, false), some (.tuple ps, false), s3, s4]) (enumD ps) [] [some (rawv a, false), some (.int t, false), some (.tuple ps, false), none, none] st ⟨rfl, none, none, rfl⟩ fun done d ρ st' hd ⟨hst, s3, s4, hρ⟩ => by
              subst hst hρ
              obtain ⟨⟨x, i⟩, hm, rfl⟩ := List.mem_map.mp hd
              have hi := List.mem_zipIdx hm
              have hx : x ∈ ps := by
                have := hi.2.2
                rw [this]
                exact List.getElem_mem _
              have hp := List.all_eq_true.mp h2 x hx
              unfold pairOk at hp
              split at hp
              · rename_i p q
                have hp := of_decide_eq_true hp
                refine ⟨[some (rawv a, false), some (.int t, false), some (.tuple ps, false), some (.int (i : Nat), false), some (.tuple [.int p, .int q], false)], [some (rawv a, false), some (.int t, false), some (.tuple ps, false), some (.int (i : Nat), false), some (.tuple [.int p, .int q], false)], _, rfl, .inl ?_, rfl, _, _, rfl⟩
                have f1 : (eB (eOp geB (eVar 3) (eC (.int 24)))) [some (rawv a, false), some (.int t, false), some (.tuple ps, false), some (.int (i : Nat), false), some (.tuple [.int p, .int q], false)] st' = .ok (decide ((24 : Int) ≤ (i : Nat))) st' := rfl
                have f2 : (eCall m_is_pair_of (eCons (eVar 4) (eCons (eVar 1) eNil))) [some (rawv a, false), some (.int t, false), some (.tuple ps, false), some (.int (i : Nat), false), some (.tuple [.int p, .int q], false)] st' = .ok (.bool true) st' := mk_pair p q t st' hp
                have f3 : decide ((24 : Int) ≤ (i : Nat)) = false := by
                  have := hi.2.1
                  simp only [decide_eq_false_iff_not]
                  omega
                rw [f3] at f1
                have f4 : (bNot (eB (eCall m_is_pair_of (eCons (eVar 4) (eCons (eVar 1) eNil))))) [some (rawv a, false), some (.int t, false), some (.tuple ps, false), some (.int (i : Nat), false), some (.tuple [.int p, .int q], false)] st' = .ok false st' := by
                  simp only [bNot, eB, f2, ER.bind_ok]
                  rfl
                simp only [sIf, bOr, f1, ER.bind_ok, f4]
                rfl
              · cases hp
          subst h5 h6
          refine ⟨s3, s4, ?_⟩
          unfold bm_League
          simp only [sSeq, e2, e3]
          show (match iArgs enuOf (eCons (eVar 2) eNil) [some (rawv a, false), some (.int t, false), some (.tuple ps, false), none, none] st' with | .ok ds st => forGo _ _ ds _ st | .exn x st => .exn x st | .stuck => .stuck) = _
          exact h4
        obtain ⟨s3, s4, e⟩ := key
        unfold mI
        show (match bm_League [some (rawv a, false), some (.int t, false), some (.tuple ps, false), none, none] st with | .nx ρ' st' => _ | .exn e st' => _ | _ => _) = _
        rw [e]
        simp [rawv]
      | _ => cases hl
    · exact absurd rfl h
  · exact absurd rfl h
theorem sc_League_init : FnScope N_League_init ["self", "teams", "games"] (defScope s_League_init) := ⟨rfl, rfl, rfl, by decide +kernel, rfl, by decide +kernel, by decide +kernel⟩
theorem ok_League_init (W : Wd P w K mg base G xc T fdf fI fdI cc tt) : FnOk P w K mg base (L2.CX P w) 4 fI fdI ["self", "teams", "games"] (spI G xc T mk_League) :=
  okInit (n := 2) (bm := bm_League) W.d_League_init sc_League_init rfl rfl W.lea mk_ok fun cdv A outer s H E L Z hr => by
  have nd := sc_League_init.nd
  refine L2.PSs.imp ?_ (fun D σ H h => tseq_seq2 h)
  exact (pss_cons (ps_ifD (pt_notD (pt_valD (pe_callD (ok_is_within W) (hr.mono (by decide)) rfl W.g_is_within W.k_is_within W.b_is_within (passes_call (takes_of rfl rfl rfl rfl) fun _ _ _ _ h => h) rfl rfl rfl defD_len (pa_consD (pe_varD (i := 1) rfl (by first | exact .inl rfl | exact .inr (.inl rfl) | exact .inr (.inr rfl))) (pa_consD pe_intD (pa_consD (W.c_MOST_TEAMS.elim fun _ h => pe_globD (v := .int 8) rfl h ⟨_, rfl⟩ fun _ _ => .int _) pa_nilD))))))
    (pss_oneD ps_stuckD)
    pss_nilD)
  (pss_cons (ps_ifD (pt_notD (pt_valD (pe_isaD (n := "tuple") W.hK W.lea rfl W.free_isinstance (pe_varD (i := 2) rfl (by first | exact .inl rfl | exact .inr (.inl rfl) | exact .inr (.inr rfl))) (pe_bltn (v := .ty "tuple") rfl W.free_tuple boot_tuple rfl) (.ty "tuple") (by simp))))
    (pss_oneD ps_stuckD)
    pss_nilD)
  (pss_cons (ps_forD (M := ([2] ++ [])) (passes_of rfl) rfl (pi_enuD W.hK rfl W.free_enumerate (pa_consD (pe_varD (i := 2) rfl (by first | exact .inl rfl | exact .inr (.inl rfl) | exact .inr (.inr rfl))) pa_nilD)) (pg_tupD W.hK rfl (pgs_consD (pg_nameD (i := 3) nd rfl (by first | exact .inl rfl | exact .inr rfl) (by first | exact .inl rfl | exact .inr rfl)) (pgs_consD (pg_nameD (i := 4) nd rfl (by first | exact .inl rfl | exact .inr rfl) (by first | exact .inl rfl | exact .inr rfl)) pgs_nilD)) (len_cn (len_cn (fun _ _ _ h => len_nl h))))
    (pss_oneD (ps_ifD (PW.pt (pw_orD (pt_cmpD (op_geB W.hK hr.units) (pe_varD (i := 3) rfl (by first | exact .inl rfl | exact .inr (.inl rfl) | exact .inr (.inr rfl))) (W.c_MOST_GAMES.elim fun _ h => pe_globD (v := .int 24) rfl h ⟨_, rfl⟩ fun _ _ => .int _)) (pw_or1D (pt_notD (pt_valD (pe_callD (ok_is_pair_of W) (hr.mono (by decide)) rfl W.g_is_pair_of W.k_is_pair_of W.b_is_pair_of (passes_call (takes_of rfl rfl rfl rfl) fun _ _ _ _ h => h) rfl rfl rfl defD_len (pa_consD (pe_varD (i := 4) rfl (by first | exact .inl rfl | exact .inr (.inl rfl) | exact .inr (.inr rfl))) (pa_consD (pe_varD (i := 1) rfl (by first | exact .inl rfl | exact .inr (.inl rfl) | exact .inr (.inr rfl))) pa_nilD))))))))
    (pss_oneD ps_stuckD)
    pss_nilD))) (pss_cons (ps_fld (pe_var (i := 0) rfl (by first | exact .inl rfl | exact .inr (.inl rfl) | exact .inr (.inr rfl))) (pe_var (i := 1) rfl (by first | exact .inl rfl | exact .inr (.inl rfl) | exact .inr (.inr rfl))) rfl) (pss_one (ps_fld (pe_var (i := 0) rfl (by first | exact .inl rfl | exact .inr (.inl rfl) | exact .inr (.inr rfl))) (pe_var (i := 2) rfl (by first | exact .inl rfl | exact .inr (.inl rfl) | exact .inr (.inr rfl))) rfl))))))
def c1__law_league_right : DE := (eLc (iSeq (eVar 10)) [14] (gN 14) (bdLast cYes (eCall m__law_upsets (eCons (eVar 2) (eCons (eVar 3) (eCons (eVar 14) eNil))))))
def c2__law_league_right : DE := (eLc (iSeq (eVar 4)) [15] (gN 15) (bdLast cYes (eArgs lenD (eCons (eVar 15) eNil))))
def c3__law_league_right : DE := (eLc (iArgs zipOf (eCons (eVar 10) (eCons (eVar 4) eNil))) [14, 15] (gTp (gCn (gN 14) (gCn (gN 15) gNl))) (bdLast (eB (eOp eqD (eArgs lenD (eCons (eVar 15) eNil)) (eVar 5))) (eVar 14)))
def c4__law_league_right : DE := (eLc (iArgs enuOf (eCons (eVar 3) eNil)) [16, 17] (gTp (gCn (gN 16) (gCn (gN 17) gNl))) (bdLast (eB (eOp isnD (eVar 17) (eC .none))) (eVar 16)))
def b1__law_league_right : DS := (sSeq (sSet 11 (List.range 18) false (eCall m__law_draw (eCons (eVar 0) (eCons (eArgs lenD (eCons (eVar 10) eNil)) eNil))))
  (sSeq (sSet 12 (List.range 18) false (eCall m_upsets (eCons (eVar 9) (eCons (eVar 3) (eCons (eOp ixD (eVar 10) (eVar 11)) eNil)))))
  (sSeq (sIf (bOr (eB (eOp neD (eVar 12) (eOp ixD (eVar 4) (eVar 11)))) (eB (eOp neD (eArgs reprQ (eCons (eCall m_is_best_order (eCons (eVar 9) (eCons (eVar 3) (eCons (eOp ixD (eVar 10) (eVar 11)) eNil)))) eNil)) (eArgs reprQ (eCons (eOp isInD (eOp ixD (eVar 10) (eVar 11)) (eVar 6)) eNil)))))
    (sRet false (eC (.bool false)))
    sNext)
  (sSeq (sIf (eB (eOp neD (eArgs tupleD (eCons (eArgs sortedB (eCons (eOp addD (eVar 12) (eCall m_upsets (eCons (eVar 9) (eCons (eVar 3) (eCons (eSt (eOp ixD (eVar 10) (eVar 11)) oNone oNone (oSome (eUn negD (eC (.int 1))))) eNil))))) eNil)) eNil)) (eVar 7)))
    (sRet false (eC (.bool false)))
    sNext)
  (sSeq (sSet 13 (List.range 18) false (eCall m__law_bent (eCons (eVar 0) (eCons (eOp ixD (eVar 10) (eVar 11)) eNil))))
  (sSeq (sIf (eB (eOp isnD (eCall m_is_best_order (eCons (eVar 9) (eCons (eVar 3) (eCons (eVar 13) eNil)))) (eC (.bool false))))
    (sRet false (eC (.bool false)))
    sNext)
  (sIf (eB (eOp neD (eWord (fun _ => (.str ("told" : Str))) wt__law_word (eCall m_upsets (eCons (eVar 9) (eCons (eVar 3) (eCons (eVar 13) eNil))))) (eC (.str ("order" : Str)))))
    (sRet false (eC (.bool false)))
    sNext)))))))
def N__law_league_right : List Str := ["hand", "teams", "games", "results", "dues", "fewest", "best", "decided", "turn", "league", "every", "at", "told", "bent", "line", "due", "game", "side"]
def m__law_league_right : DF := defD 18 4 false
  (sSeq (sPar 9 (List.range 18) false (eMake mk_League (eCons (eVar 1) (eCons (eVar 2) eNil))) 10 (List.range 18) true (eCall m__law_orders (eCons (eVar 1) eNil)))
  (sSeq (sSet 4 (List.range 18) true c1__law_league_right)
  (sSeq (sSet 5 ((List.range 18) ++ []) false (eArgs minB (eCons c2__law_league_right eNil)))
  (sSeq (sSet 6 (List.range 18) true c3__law_league_right)
  (sSeq (sIf (bOr (eB (eOp neD (eCall m_fewest_upsets (eCons (eVar 9) (eCons (eVar 3) eNil))) (eVar 5))) (eB (eOp neD (eCall m_best_order (eCons (eVar 9) (eCons (eVar 3) eNil))) (eOp ixD (eVar 6) (eC (.int 0))))))
    (sRet false (eC (.bool false)))
    sNext)
  (sSeq (sSet 7 ((List.range 18) ++ []) false (eArgs tupleD (eCons c4__law_league_right eNil)))
  (sSeq (sFor [] (iArgs rng1Of (eCons (eC (.int 8)) eNil)) (gN 8)
    b1__law_league_right)
  (sRet false (eOr (eOp eqD (eArgs lenD (eCons (eVar 7) eNil)) (eArgs lenD (eCons (eVar 2) eNil))) (eCall m__law_more_right (eCons (eVar 0) (eCons (eVar 9) (eCons (eVar 3) (eCons (eVar 5) eNil))))))))))))))
theorem sc__law_league_right : FnScope N__law_league_right ["hand", "teams", "games", "results"] (defScope s__law_league_right) := ⟨rfl, rfl, rfl, by decide +kernel, rfl, by decide +kernel, by decide +kernel⟩
theorem ok__law_league_right (W : Wd P w K mg base G xc T fdf fI fdI cc tt) : FnG P w K mg base (L2.CX P w) 10 (G.fa 31) (fdf 31) ["hand", "teams", "games", "results"] (spD G xc T 4 false m__law_league_right) :=
  okDLG W.d__law_league_right W.cc__law_league_right sc__law_league_right rfl (by decide) fun A outer s H E L Z hr hgu => by
  have nd := sc__law_league_right.nd
  exact (pss_consD (ps_parCD (i := 9) (j := 10) rfl nd rfl rfl (by first | exact .inl rfl | exact .inr rfl) (by first | exact .inl rfl | exact .inr rfl) (by first | exact .inl rfl | exact .inr rfl) (by first | exact .inl rfl | exact .inr rfl) (pe_makeD (ok_League_init W) W.m_League (hr.mono (by decide)) rfl W.g_League W.b_League_init (passes_call (takes_of rfl rfl rfl rfl) fun _ _ _ _ h => h) rfl rfl rfl mk_lea (pa_consD (pe_varD (i := 1) rfl (by first | exact .inl rfl | exact .inr (.inl rfl) | exact .inr (.inr rfl))) (pa_consD (pe_varD (i := 2) rfl (by first | exact .inl rfl | exact .inr (.inl rfl) | exact .inr (.inr rfl))) pa_nilD))) (pe_callD (ok__law_orders W) (hr.mono (by decide)) rfl W.g__law_orders W.k__law_orders W.b__law_orders (passes_call (takes_of rfl rfl rfl rfl) fun _ _ _ _ h => h) rfl rfl rfl defD_len (pa_consD (pe_varD (i := 1) rfl (by first | exact .inl rfl | exact .inr (.inl rfl) | exact .inr (.inr rfl))) pa_nilD)) rfl)
  (pss_consD (ps_setLcD (i := 4) (own := [(("line" : Str), 14)]) rfl nd rfl rfl (sw_true rfl rfl rfl (by decide +kernel)) (pi_seqD (pe_varD (i := 10) rfl (by first | exact .inl rfl | exact .inr (.inl rfl) | exact .inr (.inr rfl))) W.hK) (blkOk_by (by kernel_rfl)) (by decide) (fun Z _ _ _ _ _ => (pg_nameD (i := 14) nd rfl (by first | exact .inl rfl | exact .inr rfl) (by first | exact .inl rfl | exact .inr rfl))) (fun Z _ _ _ _ _ => pts_nilD) (fun Z _ _ _ _ _ => (pe_callD (ok__law_upsets W) (hr.mono (by decide)) rfl W.g__law_upsets W.k__law_upsets W.b__law_upsets passL rfl rfl rfl defD_len (pa_consD (pe_varD (i := 2) rfl (by first | exact .inl rfl | exact .inr (.inl rfl) | exact .inr (.inr rfl))) (pa_consD (pe_varD (i := 3) rfl (by first | exact .inl rfl | exact .inr (.inl rfl) | exact .inr (.inr rfl))) (pa_consD (pe_varD (i := 14) rfl (by first | exact .inl rfl | exact .inr (.inl rfl) | exact .inr (.inr rfl))) pa_nilD))))))
  (pss_consD (ps_setD (i := 5) nd rfl (by first | exact .inl rfl | exact .inr rfl) (pe_callBD (call_minB W.hK rfl (un67 hr)) rfl W.free_min boot_min (pa_consD (pe_lcD (own := [(("due" : Str), 15)]) rfl nd (pi_seqD (pe_varD (i := 4) rfl (by first | exact .inl rfl | exact .inr (.inl rfl) | exact .inr (.inr rfl))) W.hK) (blkOk_by (by kernel_rfl)) (by decide) (fun Z _ _ _ _ _ => (pg_nameD (i := 15) nd rfl (by first | exact .inl rfl | exact .inr rfl) (by first | exact .inl rfl | exact .inr rfl))) (fun Z _ _ _ _ _ => pts_nilD) (fun Z _ _ _ _ _ => (pe_callBD (call_lenD' W.hK) rfl W.free_len boot_len (pa_consD (pe_varD (i := 15) rfl (by first | exact .inl rfl | exact .inr (.inl rfl) | exact .inr (.inr rfl))) pa_nilD)))) pa_nilD)) rfl (by first | exact .inl rfl | exact .inr rfl))
  (pss_consD (ps_setLcD (i := 6) (own := [(("line" : Str), 14), (("due" : Str), 15)]) rfl nd rfl rfl (sw_true rfl rfl rfl (by decide +kernel)) (pi_zipD W.hK rfl W.free_zip (pa_consD (pe_varD (i := 10) rfl (by first | exact .inl rfl | exact .inr (.inl rfl) | exact .inr (.inr rfl))) (pa_consD (pe_varD (i := 4) rfl (by first | exact .inl rfl | exact .inr (.inl rfl) | exact .inr (.inr rfl))) pa_nilD))) (blkOk_by (by kernel_rfl)) (by decide) (fun Z _ _ _ _ _ => (pg_tupD W.hK rfl (pgs_consD (pg_nameD (i := 14) nd rfl (by first | exact .inl rfl | exact .inr rfl) (by first | exact .inl rfl | exact .inr rfl)) (pgs_consD (pg_nameD (i := 15) nd rfl (by first | exact .inl rfl | exact .inr rfl) (by first | exact .inl rfl | exact .inr rfl)) pgs_nilD)) (len_cn (len_cn (fun _ _ _ h => len_nl h))))) (fun Z _ _ _ _ _ => (pts_oneD (pt_cmpD (op_eqDD W.hK hr.units) (pe_callBD (call_lenD' W.hK) rfl W.free_len boot_len (pa_consD (pe_varD (i := 15) rfl (by first | exact .inl rfl | exact .inr (.inl rfl) | exact .inr (.inr rfl))) pa_nilD)) (pe_varD (i := 5) rfl (by first | exact .inl rfl | exact .inr (.inl rfl) | exact .inr (.inr rfl)))))) (fun Z _ _ _ _ _ => (pe_varD (i := 14) rfl (by first | exact .inl rfl | exact .inr (.inl rfl) | exact .inr (.inr rfl)))))
  (pss_consD (ps_ifD (PW.pt (pw_orD (pt_cmpD (op_neDD W.hK hr.units) (pe_callD (ok_fewest_upsets W) (hr.mono (by decide)) rfl W.g_fewest_upsets W.k_fewest_upsets W.b_fewest_upsets (passes_call (takes_of rfl rfl rfl rfl) fun _ _ _ _ h => h) rfl rfl rfl defD_len (pa_consD (pe_varD (i := 9) rfl (by first | exact .inl rfl | exact .inr (.inl rfl) | exact .inr (.inr rfl))) (pa_consD (pe_varD (i := 3) rfl (by first | exact .inl rfl | exact .inr (.inl rfl) | exact .inr (.inr rfl))) pa_nilD))) (pe_varD (i := 5) rfl (by first | exact .inl rfl | exact .inr (.inl rfl) | exact .inr (.inr rfl)))) (pw_or1D (pt_cmpD (op_neDD W.hK hr.units) (pe_callD (ok_best_order W) (hr.mono (by decide)) rfl W.g_best_order W.k_best_order W.b_best_order (passes_call (takes_of rfl rfl rfl rfl) fun _ _ _ _ h => h) rfl rfl rfl defD_len (pa_consD (pe_varD (i := 9) rfl (by first | exact .inl rfl | exact .inr (.inl rfl) | exact .inr (.inr rfl))) (pa_consD (pe_varD (i := 3) rfl (by first | exact .inl rfl | exact .inr (.inl rfl) | exact .inr (.inr rfl))) pa_nilD))) (pe_ixD (ix_D W.hK) (pe_varD (i := 6) rfl (by first | exact .inl rfl | exact .inr (.inl rfl) | exact .inr (.inr rfl))) pe_intD (fun _ _ => rfl))))))
    (pss_oneD (ps_retD pe_boolD))
    pss_nilD)
  (pss_consD (ps_setD (i := 7) nd rfl (by first | exact .inl rfl | exact .inr rfl) (pe_callTyD (call_tupleD W.hK) rfl W.free_tuple boot_tuple (pa_consD (pe_lcD (own := [(("game" : Str), 16), (("side" : Str), 17)]) rfl nd (pi_enuD W.hK rfl W.free_enumerate (pa_consD (pe_varD (i := 3) rfl (by first | exact .inl rfl | exact .inr (.inl rfl) | exact .inr (.inr rfl))) pa_nilD)) (blkOk_by (by kernel_rfl)) (by decide) (fun Z _ _ _ _ _ => (pg_tupD W.hK rfl (pgs_consD (pg_nameD (i := 16) nd rfl (by first | exact .inl rfl | exact .inr rfl) (by first | exact .inl rfl | exact .inr rfl)) (pgs_consD (pg_nameD (i := 17) nd rfl (by first | exact .inl rfl | exact .inr rfl) (by first | exact .inl rfl | exact .inr rfl)) pgs_nilD)) (len_cn (len_cn (fun _ _ _ h => len_nl h))))) (fun Z _ _ _ _ _ => (pts_oneD (pt_cmpD op_isnD (pe_varD (i := 17) rfl (by first | exact .inl rfl | exact .inr (.inl rfl) | exact .inr (.inr rfl))) pe_noneD))) (fun Z _ _ _ _ _ => (pe_varD (i := 16) rfl (by first | exact .inl rfl | exact .inr (.inl rfl) | exact .inr (.inr rfl))))) pa_nilD)) rfl (by first | exact .inl rfl | exact .inr rfl))
  (pss_consD (ps_forD (M := []) (passes_of rfl) rfl (pi_rng1D rfl W.free_range (pa_consD pe_intD pa_nilD)) (pg_nameD (i := 8) nd rfl (by first | exact .inl rfl | exact .inr rfl) (by first | exact .inl rfl | exact .inr rfl))
    (pss_consD (ps_setD (i := 11) nd rfl (by first | exact .inl rfl | exact .inr rfl) (pe_callD (ok__law_draw W) (hr.mono (by decide)) rfl W.g__law_draw W.k__law_draw W.b__law_draw (passes_call (takes_of rfl rfl rfl rfl) fun _ _ _ _ h => h) rfl rfl rfl defD_len (pa_consD (pe_varD (i := 0) rfl (by first | exact .inl rfl | exact .inr (.inl rfl) | exact .inr (.inr rfl))) (pa_consD (pe_callBD (call_lenD' W.hK) rfl W.free_len boot_len (pa_consD (pe_varD (i := 10) rfl (by first | exact .inl rfl | exact .inr (.inl rfl) | exact .inr (.inr rfl))) pa_nilD)) pa_nilD))) rfl (by first | exact .inl rfl | exact .inr rfl))
  (pss_consD (ps_setD (i := 12) nd rfl (by first | exact .inl rfl | exact .inr rfl) (pe_callD (ok_upsets W) (hr.mono (by decide)) rfl W.g_upsets W.k_upsets W.b_upsets (passes_call (takes_of rfl rfl rfl rfl) fun _ _ _ _ h => h) rfl rfl rfl defD_len (pa_consD (pe_varD (i := 9) rfl (by first | exact .inl rfl | exact .inr (.inl rfl) | exact .inr (.inr rfl))) (pa_consD (pe_varD (i := 3) rfl (by first | exact .inl rfl | exact .inr (.inl rfl) | exact .inr (.inr rfl))) (pa_consD (pe_ixD (ix_D W.hK) (pe_varD (i := 10) rfl (by first | exact .inl rfl | exact .inr (.inl rfl) | exact .inr (.inr rfl))) (pe_varD (i := 11) rfl (by first | exact .inl rfl | exact .inr (.inl rfl) | exact .inr (.inr rfl))) (fun _ _ => rfl)) pa_nilD)))) rfl (by first | exact .inl rfl | exact .inr rfl))
  (pss_consD (ps_ifD (PW.pt (pw_orD (pt_cmpD (op_neDD W.hK hr.units) (pe_varD (i := 12) rfl (by first | exact .inl rfl | exact .inr (.inl rfl) | exact .inr (.inr rfl))) (pe_ixD (ix_D W.hK) (pe_varD (i := 4) rfl (by first | exact .inl rfl | exact .inr (.inl rfl) | exact .inr (.inr rfl))) (pe_varD (i := 11) rfl (by first | exact .inl rfl | exact .inr (.inl rfl) | exact .inr (.inr rfl))) (fun _ _ => rfl))) (pw_or1D (pt_cmpD (op_neDD W.hK hr.units) (pe_callBD (call_reprQ W.hK hgu (un66 hr)) rfl W.free_repr boot_repr (pa_consD (pe_callD (ok_is_best_order W) (hr.mono (by decide)) rfl W.g_is_best_order W.k_is_best_order W.b_is_best_order (passes_call (takes_of rfl rfl rfl rfl) fun _ _ _ _ h => h) rfl rfl rfl defD_len (pa_consD (pe_varD (i := 9) rfl (by first | exact .inl rfl | exact .inr (.inl rfl) | exact .inr (.inr rfl))) (pa_consD (pe_varD (i := 3) rfl (by first | exact .inl rfl | exact .inr (.inl rfl) | exact .inr (.inr rfl))) (pa_consD (pe_ixD (ix_D W.hK) (pe_varD (i := 10) rfl (by first | exact .inl rfl | exact .inr (.inl rfl) | exact .inr (.inr rfl))) (pe_varD (i := 11) rfl (by first | exact .inl rfl | exact .inr (.inl rfl) | exact .inr (.inr rfl))) (fun _ _ => rfl)) pa_nilD)))) pa_nilD)) (pe_callBD (call_reprQ W.hK hgu (un66 hr)) rfl W.free_repr boot_repr (pa_consD (pe_cmpD (op_inD W.hK (un65 hr)) (pe_ixD (ix_D W.hK) (pe_varD (i := 10) rfl (by first | exact .inl rfl | exact .inr (.inl rfl) | exact .inr (.inr rfl))) (pe_varD (i := 11) rfl (by first | exact .inl rfl | exact .inr (.inl rfl) | exact .inr (.inr rfl))) (fun _ _ => rfl)) (pe_varD (i := 6) rfl (by first | exact .inl rfl | exact .inr (.inl rfl) | exact .inr (.inr rfl)))) pa_nilD))))))
    (pss_oneD (ps_retD pe_boolD))
    pss_nilD)
  (pss_consD (ps_ifD (pt_cmpD (op_neDD W.hK hr.units) (pe_callTyD (call_tupleD W.hK) rfl W.free_tuple boot_tuple (pa_consD (pe_callBD (call_sortedB W.hK (un67 hr)) rfl W.free_sorted boot_sorted (pa_consD (pe_opD (op_addD W.hK) (pe_varD (i := 12) rfl (by first | exact .inl rfl | exact .inr (.inl rfl) | exact .inr (.inr rfl))) (pe_callD (ok_upsets W) (hr.mono (by decide)) rfl W.g_upsets W.k_upsets W.b_upsets (passes_call (takes_of rfl rfl rfl rfl) fun _ _ _ _ h => h) rfl rfl rfl defD_len (pa_consD (pe_varD (i := 9) rfl (by first | exact .inl rfl | exact .inr (.inl rfl) | exact .inr (.inr rfl))) (pa_consD (pe_varD (i := 3) rfl (by first | exact .inl rfl | exact .inr (.inl rfl) | exact .inr (.inr rfl))) (pa_consD (pe_stD W.hK (pe_ixD (ix_D W.hK) (pe_varD (i := 10) rfl (by first | exact .inl rfl | exact .inr (.inl rfl) | exact .inr (.inr rfl))) (pe_varD (i := 11) rfl (by first | exact .inl rfl | exact .inr (.inl rfl) | exact .inr (.inr rfl))) (fun _ _ => rfl)) po_noneD po_noneD (po_someD (pe_unD un_negD pe_intD))) pa_nilD))))) pa_nilD)) pa_nilD)) (pe_varD (i := 7) rfl (by first | exact .inl rfl | exact .inr (.inl rfl) | exact .inr (.inr rfl))))
    (pss_oneD (ps_retD pe_boolD))
    pss_nilD)
  (pss_consD (ps_setD (i := 13) nd rfl (by first | exact .inl rfl | exact .inr rfl) (pe_callD (ok__law_bent W) (hr.mono (by decide)) rfl W.g__law_bent W.k__law_bent W.b__law_bent (passes_call (takes_of rfl rfl rfl rfl) fun _ _ _ _ h => h) rfl rfl rfl defD_len (pa_consD (pe_varD (i := 0) rfl (by first | exact .inl rfl | exact .inr (.inl rfl) | exact .inr (.inr rfl))) (pa_consD (pe_ixD (ix_D W.hK) (pe_varD (i := 10) rfl (by first | exact .inl rfl | exact .inr (.inl rfl) | exact .inr (.inr rfl))) (pe_varD (i := 11) rfl (by first | exact .inl rfl | exact .inr (.inl rfl) | exact .inr (.inr rfl))) (fun _ _ => rfl)) pa_nilD))) rfl (by first | exact .inl rfl | exact .inr rfl))
  (pss_consD (ps_ifD (pt_cmpD op_isnD (pe_callD (ok_is_best_order W) (hr.mono (by decide)) rfl W.g_is_best_order W.k_is_best_order W.b_is_best_order (passes_call (takes_of rfl rfl rfl rfl) fun _ _ _ _ h => h) rfl rfl rfl defD_len (pa_consD (pe_varD (i := 9) rfl (by first | exact .inl rfl | exact .inr (.inl rfl) | exact .inr (.inr rfl))) (pa_consD (pe_varD (i := 3) rfl (by first | exact .inl rfl | exact .inr (.inl rfl) | exact .inr (.inr rfl))) (pa_consD (pe_varD (i := 13) rfl (by first | exact .inl rfl | exact .inr (.inl rfl) | exact .inr (.inr rfl))) pa_nilD)))) pe_boolD)
    (pss_oneD (ps_retD pe_boolD))
    pss_nilD)
  (pss_oneD (ps_ifD (pt_cmpD (op_neDD W.hK hr.units) (pe_wordD (k := 7) (fr := false) (M := (List.range 18)) W.d__law_word W.b__law_word rfl W.g__law_word sc__law_word rfl (by first | exact .inl rfl | exact .inr (.inl rfl) | exact .inr (.inr rfl)) (fun cdg => wg__law_word W (hr.mono (by decide)) cdg _) W.tb__law_league_right rfl W.tm__law_league_right W.tu__law_league_right (hr.mono (by decide)) (LamX.lamS_by (by kernel_rfl)) rfl (fun _ _ _ _ _ => rfl) (fun A outer s H E f z hr => (pe_callD (ok_upsets W) (hr.mono (by decide)) rfl W.g_upsets W.k_upsets W.b_upsets (passes_call (takes_of rfl rfl rfl rfl) fun _ _ _ _ h => h) rfl rfl rfl defD_len (pa_consD (pe_varD (i := 9) rfl (by first | exact .inl rfl | exact .inr (.inl rfl) | exact .inr (.inr rfl))) (pa_consD (pe_varD (i := 3) rfl (by first | exact .inl rfl | exact .inr (.inl rfl) | exact .inr (.inr rfl))) (pa_consD (pe_varD (i := 13) rfl (by first | exact .inl rfl | exact .inr (.inl rfl) | exact .inr (.inr rfl))) pa_nilD))))) (fun h => (word_read (fun _ _ _ => .str _) wh__law_word) h)) pe_strD)
    (pss_oneD (ps_retD pe_boolD))
    pss_nilD)))))))))
  (pss_oneD (ps_retD (pe_orD (pe_cmpD (op_eqDD W.hK hr.units) (pe_callBD (call_lenD' W.hK) rfl W.free_len boot_len (pa_consD (pe_varD (i := 7) rfl (by first | exact .inl rfl | exact .inr (.inl rfl) | exact .inr (.inr rfl))) pa_nilD)) (pe_callBD (call_lenD' W.hK) rfl W.free_len boot_len (pa_consD (pe_varD (i := 2) rfl (by first | exact .inl rfl | exact .inr (.inl rfl) | exact .inr (.inr rfl))) pa_nilD))) (pe_oneD (pe_callD (ok__law_more_right W) (hr.mono (by decide)) rfl W.g__law_more_right W.k__law_more_right W.b__law_more_right (passes_call (takes_of rfl rfl rfl rfl) fun _ _ _ _ h => h) rfl rfl rfl defD_len (pa_consD (pe_varD (i := 0) rfl (by first | exact .inl rfl | exact .inr (.inl rfl) | exact .inr (.inr rfl))) (pa_consD (pe_varD (i := 9) rfl (by first | exact .inl rfl | exact .inr (.inl rfl) | exact .inr (.inr rfl))) (pa_consD (pe_varD (i := 3) rfl (by first | exact .inl rfl | exact .inr (.inl rfl) | exact .inr (.inr rfl))) (pa_consD (pe_varD (i := 5) rfl (by first | exact .inl rfl | exact .inr (.inl rfl) | exact .inr (.inr rfl))) pa_nilD))))))))))))))))
def b1__law_refused_right : DS := (sSeq (sApp 5 (List.range 7) false (eWord (fun _ => (.str ("told" : Str))) wt__law_word (eVcase 6 21 (eCall m_fewest_upsets (eCons (eVar 3) (eCons (eVar 4) eNil))) (eVcase 6 22 (eCall m_best_order (eCons (eVar 3) (eCons (eVar 4) eNil))) (fun _ _ => .stuck)))))
  (sApp 5 (List.range 7) false (eWord (fun _ => (.str ("told" : Str))) wt__law_word (eVcase 6 21 (eCall m_fewest_upsets (eCons (eVar 1) (eCons (eVar 4) eNil))) (eVcase 6 22 (eCall m_best_order (eCons (eVar 1) (eCons (eVar 4) eNil))) (fun _ _ => .stuck))))))
def N__law_refused_right : List Str := ["hand", "league", "results", "none", "odd", "words", "asked"]
def m__law_refused_right : DF := defD 7 3 false
  (sSeq (sSet 3 (List.range 7) false (eCall m__law_any (eCons (eVar 0) (eCons (eLst (eCons (eC .none) (eCons (eC (.int 0)) (eCons (eTup (eCons (eC (.int 2)) (eCons (eTup eNil) eNil))) (eCons (eLst (eCons (eVar 1) eNil)) (eCons (eC (.str ("league" : Str))) (eCons (eC (.dict [])) eNil))))))) eNil))))
  (sSeq (sSet 4 (List.range 7) false (eCall m__law_any (eCons (eVar 0) (eCons (eLst (eCons (eArgs listD (eCons (eVar 2) eNil)) (eCons (eOp addD (eVar 2) (eTup (eCons (eC (.int 0)) eNil))) (eCons (eC .none) (eCons (eC (.int 0)) (eCons (eOp addD (eVar 2) (eTup (eCons (eC .none) eNil))) (eCons (eC (.str ("01" : Str))) (eCons (eC (.dict [])) eNil)))))))) eNil))))
  (sSeq (sSet 5 ((List.range 7) ++ []) true (eLst (eCons (eWord (fun _ => (.str ("told" : Str))) wt__law_word (eCall m_upsets (eCons (eVar 3) (eCons (eVar 4) (eCons (eC .none) eNil))))) eNil)))
  (sSeq (sApp 5 (List.range 7) false (eWord (fun _ => (.str ("told" : Str))) wt__law_word (eCall m_upsets (eCons (eVar 1) (eCons (eVar 4) (eCons (eC .none) eNil))))))
  (sSeq (sApp 5 (List.range 7) false (eWord (fun _ => (.str ("told" : Str))) wt__law_word (eCall m_upsets (eCons (eVar 1) (eCons (eVar 2) (eCons (eC .none) eNil))))))
  (sSeq (sFor ([] ++ ([] ++ [])) (iSeq (eTup (eCons (eC (fnv 21)) (eCons (eC (fnv 22)) eNil)))) (gN 6)
    b1__law_refused_right)
  (sSeq (sApp 5 (List.range 7) false (eWord (fun _ => (.str ("told" : Str))) wt__law_word (eCall m_is_best_order (eCons (eVar 3) (eCons (eVar 4) (eCons (eC .none) eNil))))))
  (sSeq (sApp 5 (List.range 7) false (eWord (fun _ => (.str ("told" : Str))) wt__law_word (eCall m_is_best_order (eCons (eVar 1) (eCons (eVar 4) (eCons (eC .none) eNil))))))
  (sRet false (eOp eqD (eVar 5) (eOp addD (eLst (eCons (eC (.str ("league" : Str))) (eCons (eC (.str ("results" : Str))) (eCons (eC (.str ("order" : Str))) eNil)))) (eOp mulD (eLst (eCons (eC (.str ("league" : Str))) (eCons (eC (.str ("results" : Str))) eNil))) (eC (.int 3))))))))))))))
theorem sc__law_refused_right : FnScope N__law_refused_right ["hand", "league", "results"] (defScope s__law_refused_right) := ⟨rfl, rfl, rfl, by decide +kernel, rfl, by decide +kernel, by decide +kernel⟩
theorem ok__law_refused_right (W : Wd P w K mg base G xc T fdf fI fdI cc tt) : FnOk P w K mg base (L2.CX P w) 10 (G.fa 34) (fdf 34) ["hand", "league", "results"] (spD G xc T 3 false m__law_refused_right) :=
  okDL W.d__law_refused_right W.cc__law_refused_right sc__law_refused_right rfl (by decide) fun A outer s H E L Z hr => by
  have nd := sc__law_refused_right.nd
  exact (pss_consD (ps_setD (i := 3) nd rfl (by first | exact .inl rfl | exact .inr rfl) (pe_callD (ok__law_any W) (hr.mono (by decide)) rfl W.g__law_any W.k__law_any W.b__law_any (passes_call (takes_of rfl rfl rfl rfl) fun _ _ _ _ h => h) rfl rfl rfl defD_len (pa_consD (pe_varD (i := 0) rfl (by first | exact .inl rfl | exact .inr (.inl rfl) | exact .inr (.inr rfl))) (pa_consD (pe_lstD (pa_consD pe_noneD (pa_consD pe_intD (pa_consD (pe_tupD (pa_consD pe_intD (pa_consD (pe_tupD pa_nilD) pa_nilD))) (pa_consD (pe_lstD (pa_consD (pe_varD (i := 1) rfl (by first | exact .inl rfl | exact .inr (.inl rfl) | exact .inr (.inr rfl))) pa_nilD)) (pa_consD pe_strD (pa_consD pe_dict0D pa_nilD))))))) pa_nilD))) rfl (by first | exact .inl rfl | exact .inr rfl))
  (pss_consD (ps_setD (i := 4) nd rfl (by first | exact .inl rfl | exact .inr rfl) (pe_callD (ok__law_any W) (hr.mono (by decide)) rfl W.g__law_any W.k__law_any W.b__law_any (passes_call (takes_of rfl rfl rfl rfl) fun _ _ _ _ h => h) rfl rfl rfl defD_len (pa_consD (pe_varD (i := 0) rfl (by first | exact .inl rfl | exact .inr (.inl rfl) | exact .inr (.inr rfl))) (pa_consD (pe_lstD (pa_consD (pe_callTyD (call_listD W.hK) rfl W.free_list boot_list (pa_consD (pe_varD (i := 2) rfl (by first | exact .inl rfl | exact .inr (.inl rfl) | exact .inr (.inr rfl))) pa_nilD)) (pa_consD (pe_opD (op_addD W.hK) (pe_varD (i := 2) rfl (by first | exact .inl rfl | exact .inr (.inl rfl) | exact .inr (.inr rfl))) (pe_tupD (pa_consD pe_intD pa_nilD))) (pa_consD pe_noneD (pa_consD pe_intD (pa_consD (pe_opD (op_addD W.hK) (pe_varD (i := 2) rfl (by first | exact .inl rfl | exact .inr (.inl rfl) | exact .inr (.inr rfl))) (pe_tupD (pa_consD pe_noneD pa_nilD))) (pa_consD pe_strD (pa_consD pe_dict0D pa_nilD)))))))) pa_nilD))) rfl (by first | exact .inl rfl | exact .inr rfl))
  (pss_consD (ps_setD (i := 5) nd rfl (by first | exact .inl rfl | exact .inr rfl) (pe_lstD (pa_consD (pe_wordD (k := 7) (fr := false) (M := (List.range 7)) W.d__law_word W.b__law_word rfl W.g__law_word sc__law_word rfl (by first | exact .inl rfl | exact .inr (.inl rfl) | exact .inr (.inr rfl)) (fun cdg => wg__law_word W (hr.mono (by decide)) cdg _) W.tb__law_refused_right rfl W.tm__law_refused_right W.tu__law_refused_right (hr.mono (by decide)) (LamX.lamS_by (by kernel_rfl)) rfl (fun _ _ _ _ _ => rfl) (fun A outer s H E f z hr => (pe_callD (ok_upsets W) (hr.mono (by decide)) rfl W.g_upsets W.k_upsets W.b_upsets (passes_call (takes_of rfl rfl rfl rfl) fun _ _ _ _ h => h) rfl rfl rfl defD_len (pa_consD (pe_varD (i := 3) rfl (by first | exact .inl rfl | exact .inr (.inl rfl) | exact .inr (.inr rfl))) (pa_consD (pe_varD (i := 4) rfl (by first | exact .inl rfl | exact .inr (.inl rfl) | exact .inr (.inr rfl))) (pa_consD pe_noneD pa_nilD))))) (fun h => (word_read (fun _ _ _ => .str _) wh__law_word) h)) pa_nilD)) rfl (by first | exact .inl rfl | exact .inr rfl))
  (pss_consD (ps_appD (i := 5) rfl (by first | exact .inl rfl | exact .inr (.inl rfl) | exact .inr (.inr rfl)) (pe_wordD (k := 7) (fr := false) (M := (List.range 7)) W.d__law_word W.b__law_word rfl W.g__law_word sc__law_word rfl (by first | exact .inl rfl | exact .inr (.inl rfl) | exact .inr (.inr rfl)) (fun cdg => wg__law_word W (hr.mono (by decide)) cdg _) W.tb__law_refused_right rfl W.tm__law_refused_right W.tu__law_refused_right (hr.mono (by decide)) (LamX.lamS_by (by kernel_rfl)) rfl (fun _ _ _ _ _ => rfl) (fun A outer s H E f z hr => (pe_callD (ok_upsets W) (hr.mono (by decide)) rfl W.g_upsets W.k_upsets W.b_upsets (passes_call (takes_of rfl rfl rfl rfl) fun _ _ _ _ h => h) rfl rfl rfl defD_len (pa_consD (pe_varD (i := 1) rfl (by first | exact .inl rfl | exact .inr (.inl rfl) | exact .inr (.inr rfl))) (pa_consD (pe_varD (i := 4) rfl (by first | exact .inl rfl | exact .inr (.inl rfl) | exact .inr (.inr rfl))) (pa_consD pe_noneD pa_nilD))))) (fun h => (word_read (fun _ _ _ => .str _) wh__law_word) h)))
  (pss_consD (ps_appD (i := 5) rfl (by first | exact .inl rfl | exact .inr (.inl rfl) | exact .inr (.inr rfl)) (pe_wordD (k := 7) (fr := false) (M := (List.range 7)) W.d__law_word W.b__law_word rfl W.g__law_word sc__law_word rfl (by first | exact .inl rfl | exact .inr (.inl rfl) | exact .inr (.inr rfl)) (fun cdg => wg__law_word W (hr.mono (by decide)) cdg _) W.tb__law_refused_right rfl W.tm__law_refused_right W.tu__law_refused_right (hr.mono (by decide)) (LamX.lamS_by (by kernel_rfl)) rfl (fun _ _ _ _ _ => rfl) (fun A outer s H E f z hr => (pe_callD (ok_upsets W) (hr.mono (by decide)) rfl W.g_upsets W.k_upsets W.b_upsets (passes_call (takes_of rfl rfl rfl rfl) fun _ _ _ _ h => h) rfl rfl rfl defD_len (pa_consD (pe_varD (i := 1) rfl (by first | exact .inl rfl | exact .inr (.inl rfl) | exact .inr (.inr rfl))) (pa_consD (pe_varD (i := 2) rfl (by first | exact .inl rfl | exact .inr (.inl rfl) | exact .inr (.inr rfl))) (pa_consD pe_noneD pa_nilD))))) (fun h => (word_read (fun _ _ _ => .str _) wh__law_word) h)))
  (pss_consD (ps_forD (M := ([] ++ ([] ++ []))) (passes_of rfl) rfl (pi_seqD (pe_tupD (pa_consD (pe_globD (v := .ref (G.fa 21)) rfl W.g_fewest_upsets rfl fun _ _ => .fn 21) (pa_consD (pe_globD (v := .ref (G.fa 22)) rfl W.g_best_order rfl fun _ _ => .fn 22) pa_nilD))) W.hK) (pg_nameD (i := 6) nd rfl (by first | exact .inl rfl | exact .inr rfl) (by first | exact .inl rfl | exact .inr rfl))
    (pss_consD (ps_appD (i := 5) rfl (by first | exact .inl rfl | exact .inr (.inl rfl) | exact .inr (.inr rfl)) (pe_wordD (k := 6) (fr := false) (M := (List.range 7)) W.d__law_word W.b__law_word rfl W.g__law_word sc__law_word rfl (by first | exact .inl rfl | exact .inr (.inl rfl) | exact .inr (.inr rfl)) (fun cdg => wg__law_word W (hr.mono (by decide)) cdg _) W.tb__law_refused_right rfl W.tm__law_refused_right W.tu__law_refused_right (hr.mono (by decide)) (LamX.lamS_by (by kernel_rfl)) rfl (fun _ _ _ _ _ => rfl) (fun A outer s H E f z hr => (pe_callVD (i := 6) (ok_fewest_upsets W) (hr.mono (by decide)) rfl (by first | exact .inl rfl | exact .inr (.inl rfl) | exact .inr (.inr rfl)) W.k_fewest_upsets W.b_fewest_upsets (passes_call (takes_of rfl rfl rfl rfl) fun _ _ _ _ h => h) rfl rfl rfl defD_len (pa_consD (pe_varD (i := 3) rfl (by first | exact .inl rfl | exact .inr (.inl rfl) | exact .inr (.inr rfl))) (pa_consD (pe_varD (i := 4) rfl (by first | exact .inl rfl | exact .inr (.inl rfl) | exact .inr (.inr rfl))) pa_nilD)) (pe_callVD (i := 6) (ok_best_order W) (hr.mono (by decide)) rfl (by first | exact .inl rfl | exact .inr (.inl rfl) | exact .inr (.inr rfl)) W.k_best_order W.b_best_order (passes_call (takes_of rfl rfl rfl rfl) fun _ _ _ _ h => h) rfl rfl rfl defD_len (pa_consD (pe_varD (i := 3) rfl (by first | exact .inl rfl | exact .inr (.inl rfl) | exact .inr (.inr rfl))) (pa_consD (pe_varD (i := 4) rfl (by first | exact .inl rfl | exact .inr (.inl rfl) | exact .inr (.inr rfl))) pa_nilD)) pe_stuckD))) (fun h => (word_read (fun _ _ _ => .str _) wh__law_word) h)))
  (pss_oneD (ps_appD (i := 5) rfl (by first | exact .inl rfl | exact .inr (.inl rfl) | exact .inr (.inr rfl)) (pe_wordD (k := 6) (fr := false) (M := (List.range 7)) W.d__law_word W.b__law_word rfl W.g__law_word sc__law_word rfl (by first | exact .inl rfl | exact .inr (.inl rfl) | exact .inr (.inr rfl)) (fun cdg => wg__law_word W (hr.mono (by decide)) cdg _) W.tb__law_refused_right rfl W.tm__law_refused_right W.tu__law_refused_right (hr.mono (by decide)) (LamX.lamS_by (by kernel_rfl)) rfl (fun _ _ _ _ _ => rfl) (fun A outer s H E f z hr => (pe_callVD (i := 6) (ok_fewest_upsets W) (hr.mono (by decide)) rfl (by first | exact .inl rfl | exact .inr (.inl rfl) | exact .inr (.inr rfl)) W.k_fewest_upsets W.b_fewest_upsets (passes_call (takes_of rfl rfl rfl rfl) fun _ _ _ _ h => h) rfl rfl rfl defD_len (pa_consD (pe_varD (i := 1) rfl (by first | exact .inl rfl | exact .inr (.inl rfl) | exact .inr (.inr rfl))) (pa_consD (pe_varD (i := 4) rfl (by first | exact .inl rfl | exact .inr (.inl rfl) | exact .inr (.inr rfl))) pa_nilD)) (pe_callVD (i := 6) (ok_best_order W) (hr.mono (by decide)) rfl (by first | exact .inl rfl | exact .inr (.inl rfl) | exact .inr (.inr rfl)) W.k_best_order W.b_best_order (passes_call (takes_of rfl rfl rfl rfl) fun _ _ _ _ h => h) rfl rfl rfl defD_len (pa_consD (pe_varD (i := 1) rfl (by first | exact .inl rfl | exact .inr (.inl rfl) | exact .inr (.inr rfl))) (pa_consD (pe_varD (i := 4) rfl (by first | exact .inl rfl | exact .inr (.inl rfl) | exact .inr (.inr rfl))) pa_nilD)) pe_stuckD))) (fun h => (word_read (fun _ _ _ => .str _) wh__law_word) h))))))
  (pss_consD (ps_appD (i := 5) rfl (by first | exact .inl rfl | exact .inr (.inl rfl) | exact .inr (.inr rfl)) (pe_wordD (k := 6) (fr := false) (M := (List.range 7)) W.d__law_word W.b__law_word rfl W.g__law_word sc__law_word rfl (by first | exact .inl rfl | exact .inr (.inl rfl) | exact .inr (.inr rfl)) (fun cdg => wg__law_word W (hr.mono (by decide)) cdg _) W.tb__law_refused_right rfl W.tm__law_refused_right W.tu__law_refused_right (hr.mono (by decide)) (LamX.lamS_by (by kernel_rfl)) rfl (fun _ _ _ _ _ => rfl) (fun A outer s H E f z hr => (pe_callD (ok_is_best_order W) (hr.mono (by decide)) rfl W.g_is_best_order W.k_is_best_order W.b_is_best_order (passes_call (takes_of rfl rfl rfl rfl) fun _ _ _ _ h => h) rfl rfl rfl defD_len (pa_consD (pe_varD (i := 3) rfl (by first | exact .inl rfl | exact .inr (.inl rfl) | exact .inr (.inr rfl))) (pa_consD (pe_varD (i := 4) rfl (by first | exact .inl rfl | exact .inr (.inl rfl) | exact .inr (.inr rfl))) (pa_consD pe_noneD pa_nilD))))) (fun h => (word_read (fun _ _ _ => .str _) wh__law_word) h)))
  (pss_consD (ps_appD (i := 5) rfl (by first | exact .inl rfl | exact .inr (.inl rfl) | exact .inr (.inr rfl)) (pe_wordD (k := 6) (fr := false) (M := (List.range 7)) W.d__law_word W.b__law_word rfl W.g__law_word sc__law_word rfl (by first | exact .inl rfl | exact .inr (.inl rfl) | exact .inr (.inr rfl)) (fun cdg => wg__law_word W (hr.mono (by decide)) cdg _) W.tb__law_refused_right rfl W.tm__law_refused_right W.tu__law_refused_right (hr.mono (by decide)) (LamX.lamS_by (by kernel_rfl)) rfl (fun _ _ _ _ _ => rfl) (fun A outer s H E f z hr => (pe_callD (ok_is_best_order W) (hr.mono (by decide)) rfl W.g_is_best_order W.k_is_best_order W.b_is_best_order (passes_call (takes_of rfl rfl rfl rfl) fun _ _ _ _ h => h) rfl rfl rfl defD_len (pa_consD (pe_varD (i := 1) rfl (by first | exact .inl rfl | exact .inr (.inl rfl) | exact .inr (.inr rfl))) (pa_consD (pe_varD (i := 4) rfl (by first | exact .inl rfl | exact .inr (.inl rfl) | exact .inr (.inr rfl))) (pa_consD pe_noneD pa_nilD))))) (fun h => (word_read (fun _ _ _ => .str _) wh__law_word) h)))
  (pss_oneD (ps_retD (pe_cmpD (op_eqDD W.hK hr.units) (pe_varD (i := 5) rfl (by first | exact .inl rfl | exact .inr (.inl rfl) | exact .inr (.inr rfl))) (pe_opD (op_addD W.hK) (pe_lstD (pa_consD pe_strD (pa_consD pe_strD (pa_consD pe_strD pa_nilD)))) (pe_opD op_mulD (pe_lstD (pa_consD pe_strD (pa_consD pe_strD pa_nilD))) pe_intD)))))))))))))
def b1_law : DS := (sSeq (sUnp (List.range 7) (eCall m__law_league (eCons (eVar 1) (eCons (eC (.int 9)) (eCons (eCall m__law_any (eCons (eVar 1) (eCons (eLst (eCons (eC (.int 0)) (eCons (eC (.int 3)) (eCons (eC (.int 8)) eNil)))) eNil))) eNil)))) (gTp (gCn (gN 4) (gCn (gN 5) (gCn (gN 6) gNl)))))
  (sSeq (sIf (bNot (eB (eCall m__law_league_right (eCons (eVar 1) (eCons (eVar 4) (eCons (eVar 5) (eCons (eVar 6) eNil)))))))
    (sRet false (eC (.bool false)))
    sNext)
  (sIf (bNot (eB (eCall m__law_refused_right (eCons (eVar 1) (eCons (eMake mk_League (eCons (eVar 4) (eCons (eVar 5) eNil))) (eCons (eVar 6) eNil))))))
    (sRet false (eC (.bool false)))
    sNext)))
def N_law : List Str := ["script", "hand", "ring", "turn", "teams", "games", "results"]
def g_law : DS := (sSet 1 (List.range 7) true (eCall m__law_hand (eCons (eVar 0) eNil)))
def k_law : DS := (sSeq (sSet 2 (List.range 7) false (eMake mk_League (eCons (eC (.int 3)) (eCons (eTup (eCons (eTup (eCons (eC (.int 0)) (eCons (eC (.int 1)) eNil))) (eCons (eTup (eCons (eC (.int 0)) (eCons (eC (.int 2)) eNil))) (eCons (eTup (eCons (eC (.int 1)) (eCons (eC (.int 2)) eNil))) eNil)))) eNil))))
  (sSeq (sIf (bOr (eB (eOp neD (eCall m_fewest_upsets (eCons (eVar 2) (eCons (eTup (eCons (eC (.int 0)) (eCons (eC (.int 1)) (eCons (eC (.int 0)) eNil)))) eNil))) (eC (.int 1)))) (eB (eOp neD (eCall m_best_order (eCons (eVar 2) (eCons (eTup (eCons (eC (.int 0)) (eCons (eC (.int 1)) (eCons (eC (.int 0)) eNil)))) eNil))) (eTup (eCons (eC (.int 0)) (eCons (eC (.int 1)) (eCons (eC (.int 2)) eNil)))))))
    (sRet false (eC (.bool false)))
    sNext)
  (sSeq (sIf (bOr (eB (eOp neD (eCall m_upsets (eCons (eVar 2) (eCons (eTup (eCons (eC (.int 0)) (eCons (eC (.int 1)) (eCons (eC (.int 0)) eNil)))) (eCons (eTup (eCons (eC (.int 0)) (eCons (eC (.int 1)) (eCons (eC (.int 2)) eNil)))) eNil)))) (eTup (eCons (eC (.int 1)) eNil)))) (eB (eOp neD (eCall m_best_order (eCons (eVar 2) (eCons (eTup (eCons (eC (.int 1)) (eCons (eC .none) (eCons (eC .none) eNil)))) eNil))) (eTup (eCons (eC (.int 1)) (eCons (eC (.int 0)) (eCons (eC (.int 2)) eNil)))))))
    (sRet false (eC (.bool false)))
    sNext)
  (sSeq (sFor [] (iArgs rng1Of (eCons (eC (.int 4)) eNil)) (gN 3)
    b1_law)
  (sRet false (eC (.bool true)))))))
theorem sc_law : FnScope N_law ["script"] (defScope s_law) := ⟨rfl, rfl, rfl, by decide +kernel, rfl, by decide +kernel, by decide +kernel⟩
theorem ok_law (W : Wd P w K mg base G xc T fdf fI fdI cc tt) (hm : ∀ ns : List Int, ns.length ≤ 63 → (∀ z ∈ ns, Builtin.Int.intBits z ≤ 1048576) → ∃ fl st, sHand g_law 1 k_law (some (frzl (ns.map .int), false) :: List.replicate (N_law.length - 1) none) [] = .ret (.bool true) fl st) : FnG P w K mg base (L2.CX P w) 11 (G.fa 35) (fdf 35) ["script"] (spLaw K T) :=
  okLawG (xc := xc) W.hK W.d_law sc_law rfl (by decide) hm fun cdv A outer s H E L Z hZ hr hgu => by
  have nd := sc_law.nd
  exact (pss_handD hZ (ps_setD (i := 1) nd rfl (by first | exact .inl rfl | exact .inr rfl) (pe_callD (ok__law_hand W) (hr.mono (by decide)) rfl W.g__law_hand W.k__law_hand W.b__law_hand (passes_call (takes_of rfl rfl rfl rfl) fun _ _ _ _ h => h) rfl rfl rfl defD_len (pa_consD (pe_varD (i := 0) rfl (by first | exact .inl rfl | exact .inr (.inl rfl) | exact .inr (.inr rfl))) pa_nilD)) rfl (by first | exact .inl rfl | exact .inr rfl))
    (pss_consD (ps_setD (i := 2) nd rfl (by first | exact .inl rfl | exact .inr rfl) (pe_makeD (ok_League_init W) W.m_League (hr.mono (by decide)) rfl W.g_League W.b_League_init (passes_call (takes_of rfl rfl rfl rfl) fun _ _ _ _ h => h) rfl rfl rfl mk_lea (pa_consD pe_intD (pa_consD (pe_tupD (pa_consD (pe_tupD (pa_consD pe_intD (pa_consD pe_intD pa_nilD))) (pa_consD (pe_tupD (pa_consD pe_intD (pa_consD pe_intD pa_nilD))) (pa_consD (pe_tupD (pa_consD pe_intD (pa_consD pe_intD pa_nilD))) pa_nilD)))) pa_nilD))) rfl (by first | exact .inl rfl | exact .inr rfl))
  (pss_consD (ps_ifD (PW.pt (pw_orD (pt_cmpD (op_neDD W.hK hr.units) (pe_callD (ok_fewest_upsets W) (hr.mono (by decide)) rfl W.g_fewest_upsets W.k_fewest_upsets W.b_fewest_upsets (passes_call (takes_of rfl rfl rfl rfl) fun _ _ _ _ h => h) rfl rfl rfl defD_len (pa_consD (pe_varD (i := 2) rfl (by first | exact .inl rfl | exact .inr (.inl rfl) | exact .inr (.inr rfl))) (pa_consD (pe_tupD (pa_consD pe_intD (pa_consD pe_intD (pa_consD pe_intD pa_nilD)))) pa_nilD))) pe_intD) (pw_or1D (pt_cmpD (op_neDD W.hK hr.units) (pe_callD (ok_best_order W) (hr.mono (by decide)) rfl W.g_best_order W.k_best_order W.b_best_order (passes_call (takes_of rfl rfl rfl rfl) fun _ _ _ _ h => h) rfl rfl rfl defD_len (pa_consD (pe_varD (i := 2) rfl (by first | exact .inl rfl | exact .inr (.inl rfl) | exact .inr (.inr rfl))) (pa_consD (pe_tupD (pa_consD pe_intD (pa_consD pe_intD (pa_consD pe_intD pa_nilD)))) pa_nilD))) (pe_tupD (pa_consD pe_intD (pa_consD pe_intD (pa_consD pe_intD pa_nilD))))))))
    (pss_oneD (ps_retD pe_boolD))
    pss_nilD)
  (pss_consD (ps_ifD (PW.pt (pw_orD (pt_cmpD (op_neDD W.hK hr.units) (pe_callD (ok_upsets W) (hr.mono (by decide)) rfl W.g_upsets W.k_upsets W.b_upsets (passes_call (takes_of rfl rfl rfl rfl) fun _ _ _ _ h => h) rfl rfl rfl defD_len (pa_consD (pe_varD (i := 2) rfl (by first | exact .inl rfl | exact .inr (.inl rfl) | exact .inr (.inr rfl))) (pa_consD (pe_tupD (pa_consD pe_intD (pa_consD pe_intD (pa_consD pe_intD pa_nilD)))) (pa_consD (pe_tupD (pa_consD pe_intD (pa_consD pe_intD (pa_consD pe_intD pa_nilD)))) pa_nilD)))) (pe_tupD (pa_consD pe_intD pa_nilD))) (pw_or1D (pt_cmpD (op_neDD W.hK hr.units) (pe_callD (ok_best_order W) (hr.mono (by decide)) rfl W.g_best_order W.k_best_order W.b_best_order (passes_call (takes_of rfl rfl rfl rfl) fun _ _ _ _ h => h) rfl rfl rfl defD_len (pa_consD (pe_varD (i := 2) rfl (by first | exact .inl rfl | exact .inr (.inl rfl) | exact .inr (.inr rfl))) (pa_consD (pe_tupD (pa_consD pe_intD (pa_consD pe_noneD (pa_consD pe_noneD pa_nilD)))) pa_nilD))) (pe_tupD (pa_consD pe_intD (pa_consD pe_intD (pa_consD pe_intD pa_nilD))))))))
    (pss_oneD (ps_retD pe_boolD))
    pss_nilD)
  (pss_consD (ps_forD (M := []) (passes_of rfl) rfl (pi_rng1D rfl W.free_range (pa_consD pe_intD pa_nilD)) (pg_nameD (i := 3) nd rfl (by first | exact .inl rfl | exact .inr rfl) (by first | exact .inl rfl | exact .inr rfl))
    (pss_consD (ps_unpD (pe_callD (ok__law_league W) (hr.mono (by decide)) rfl W.g__law_league W.k__law_league W.b__law_league (passes_call (takes_of rfl rfl rfl rfl) fun _ _ _ _ h => h) rfl rfl rfl defD_len (pa_consD (pe_varD (i := 1) rfl (by first | exact .inl rfl | exact .inr (.inl rfl) | exact .inr (.inr rfl))) (pa_consD pe_intD (pa_consD (pe_callD (ok__law_any W) (hr.mono (by decide)) rfl W.g__law_any W.k__law_any W.b__law_any (passes_call (takes_of rfl rfl rfl rfl) fun _ _ _ _ h => h) rfl rfl rfl defD_len (pa_consD (pe_varD (i := 1) rfl (by first | exact .inl rfl | exact .inr (.inl rfl) | exact .inr (.inr rfl))) (pa_consD (pe_lstD (pa_consD pe_intD (pa_consD pe_intD (pa_consD pe_intD pa_nilD)))) pa_nilD))) pa_nilD)))) (pg_tupD W.hK rfl (pgs_consD (pg_nameD (i := 4) nd rfl (by first | exact .inl rfl | exact .inr rfl) (by first | exact .inl rfl | exact .inr rfl)) (pgs_consD (pg_nameD (i := 5) nd rfl (by first | exact .inl rfl | exact .inr rfl) (by first | exact .inl rfl | exact .inr rfl)) (pgs_consD (pg_nameD (i := 6) nd rfl (by first | exact .inl rfl | exact .inr rfl) (by first | exact .inl rfl | exact .inr rfl)) pgs_nilD))) (len_cn (len_cn (len_cn (fun _ _ _ h => len_nl h))))))
  (pss_consD (ps_ifD (pt_notD (pt_valD (pe_callDG (ok__law_league_right W) (hr.mono (by decide)) hgu rfl W.g__law_league_right W.k__law_league_right W.b__law_league_right (passes_call (takes_of rfl rfl rfl rfl) fun _ _ _ _ h => h) rfl rfl rfl defD_len (pa_consD (pe_varD (i := 1) rfl (by first | exact .inl rfl | exact .inr (.inl rfl) | exact .inr (.inr rfl))) (pa_consD (pe_varD (i := 4) rfl (by first | exact .inl rfl | exact .inr (.inl rfl) | exact .inr (.inr rfl))) (pa_consD (pe_varD (i := 5) rfl (by first | exact .inl rfl | exact .inr (.inl rfl) | exact .inr (.inr rfl))) (pa_consD (pe_varD (i := 6) rfl (by first | exact .inl rfl | exact .inr (.inl rfl) | exact .inr (.inr rfl))) pa_nilD)))))))
    (pss_oneD (ps_retD pe_boolD))
    pss_nilD)
  (pss_oneD (ps_ifD (pt_notD (pt_valD (pe_callD (ok__law_refused_right W) (hr.mono (by decide)) rfl W.g__law_refused_right W.k__law_refused_right W.b__law_refused_right (passes_call (takes_of rfl rfl rfl rfl) fun _ _ _ _ h => h) rfl rfl rfl defD_len (pa_consD (pe_varD (i := 1) rfl (by first | exact .inl rfl | exact .inr (.inl rfl) | exact .inr (.inr rfl))) (pa_consD (pe_makeD (ok_League_init W) W.m_League (hr.mono (by decide)) rfl W.g_League W.b_League_init (passes_call (takes_of rfl rfl rfl rfl) fun _ _ _ _ h => h) rfl rfl rfl mk_lea (pa_consD (pe_varD (i := 4) rfl (by first | exact .inl rfl | exact .inr (.inl rfl) | exact .inr (.inr rfl))) (pa_consD (pe_varD (i := 5) rfl (by first | exact .inl rfl | exact .inr (.inl rfl) | exact .inr (.inr rfl))) pa_nilD))) (pa_consD (pe_varD (i := 6) rfl (by first | exact .inl rfl | exact .inr (.inl rfl) | exact .inr (.inr rfl))) pa_nilD))))))
    (pss_oneD (ps_retD pe_boolD))
    pss_nilD)))))
  (pss_oneD (ps_retD pe_boolD)))))))
end
end Row
end

section
set_option maxRecDepth 100000
set_option maxHeartbeats 400000
namespace Row
open PySem PySem.Spec PyProof.Rows L2 Ev
open Enc (enc)
def gsOk (t : Nat) (gs : List (Nat × Nat)) : Prop := ∀ p ∈ gs, p.1 < p.2 ∧ p.2 < t
/-! ### upsets and the best orders (no program in sight) -/
abbrev Vo := Nat × List Nat
def isRowN (n : Nat) (r : List Nat) : Prop := r.Pairwise (· < ·) ∧ ∀ x ∈ r, x < n
def cost (wn : List (Nat × Nat)) (o : List Nat) : Nat := wn.countP fun p => decide (p.1 ∈ o) && decide (p.2 ∈ o) && decide (o.idxOf p.2 < o.idxOf p.1)
def loss (wn : List (Nat × Nat)) (t : Nat) (S : List Nat) : Nat := wn.countP fun p => p.1 == t && S.contains p.2
theorem countP_add {α : Type} (p q r : α → Bool) (h : ∀ x, (p x).toNat = (q x).toNat + (r x).toNat) (l : List α) : l.countP p = l.countP q + l.countP r := by
  induction l with
  | nil => rfl
  | cons x l ih =>
    have := h x
    rw [List.countP_cons, List.countP_cons, List.countP_cons, ih]
    cases hp : p x <;> cases hq : q x <;> cases hr : r x <;> simp [hp, hq, hr] at this ⊢ <;> omega
theorem cost_snoc (wn : List (Nat × Nat)) (o : List Nat) {t : Nat} (ht : t ∉ o) : cost wn (o ++ [t]) = cost wn o + loss wn t o := by
  unfold cost loss
  refine countP_add _ _ _ (fun p => ?_) wn
  obtain ⟨w, l⟩ := p
  simp only [List.mem_append, List.mem_singleton, List.idxOf_append]
  have hi : ∀ x ∈ o, o.idxOf x < o.length := fun x hx => List.idxOf_lt_length_of_mem hx
  by_cases h1 : w = t
  · subst h1
    by_cases h2 : l ∈ o
    · have := hi l h2
      simp [h2, ht, this]
    · by_cases h3 : l = w
      · subst h3
        simp [ht]
      · simp [h2, h3, ht]
  · by_cases h4 : w ∈ o
    · by_cases h2 : l ∈ o
      · have e : (w == t) = false := by simpa using h1
        simp [h2, h4, h1]
      · by_cases h3 : l = t
        · subst h3
          have := hi w h4
          have h5 : ¬ (o.length < o.idxOf w) := by omega
          simp [h2, h4, h1, h5]
        · simp [h2, h3, h1]
    · simp [show (w == t) = false by simpa using h1, h1, h4]
theorem loss_perm (wn : List (Nat × Nat)) (t : Nat) {a b : List Nat} (h : a.Perm b) : loss wn t a = loss wn t b := by
  unfold loss
  congr 1
  funext p
  congr 1
  rw [Bool.eq_iff_iff, List.contains_iff_mem, List.contains_iff_mem]
  exact h.mem_iff
theorem lexL_snoc (t : Nat) : ∀ a b : List Nat, a.length = b.length → lexL (a ++ [t]) (b ++ [t]) = lexL a b
  | [], [], _ => by
    show lexL [t] [t] = false
    exact lexL_irr _
  | [], _ :: _, h => by simp at h
  | _ :: _, [], h => by simp at h
  | x :: a, y :: b, h => by
    show (if x == y then lexL (a ++ [t]) (b ++ [t]) else EncO.lt x y) = (if x == y then lexL a b else EncO.lt x y)
    rw [lexL_snoc t a b (by simpa using h)]
theorem leV {a b : Vo} : leO a b = true ↔ a.1 < b.1 ∨ (a.1 = b.1 ∧ leO a.2 b.2 = true) := by
  unfold leO
  show (!(if b.1 == a.1 then lexL b.2 a.2 else decide (b.1 < a.1))) = true ↔ _
  have e : EncO.lt b.2 a.2 = lexL b.2 a.2 := rfl
  rw [e]
  by_cases h : b.1 = a.1
  · rw [if_pos (by simpa using h), h]
    simp
  · rw [if_neg (by simpa using h)]
    simp only [Bool.not_eq_true', decide_eq_false_iff_not]
    omega
theorem snoc_mono {c c' k t : Nat} {o o' : List Nat} (hl : o.length = o'.length) (h : leO ((c, o) : Vo) (c', o') = true) : leO ((c + k, o ++ [t]) : Vo) (c' + k, o' ++ [t]) = true := by
  rw [leV] at h ⊢
  rcases h with h | ⟨h1, h2⟩
  · exact .inl (by simp only at h ⊢; omega)
  · refine .inr ⟨by simp only at h1 ⊢; omega, ?_⟩
    unfold leO at h2 ⊢
    have e1 : EncO.lt (o' ++ [t]) (o ++ [t]) = lexL (o' ++ [t]) (o ++ [t]) := rfl
    have e2 : EncO.lt o' o = lexL o' o := rfl
    simp only at h2 ⊢
    rw [e1, lexL_snoc t o' o hl.symm, ← e2]
    exact h2
structure Bst (wn : List (Nat × Nat)) (r : List Nat) (v : Vo) : Prop where
  pm : v.2.Perm r
  c : v.1 = cost wn v.2
  least : ∀ o : List Nat, o.Perm r → leO v (cost wn o, o) = true
theorem bst_uniq {wn : List (Nat × Nat)} {r : List Nat} {v v' : Vo} (h : Bst wn r v) (h' : Bst wn r v') : v = v' := by
  refine leO_a v v' ?_ ?_
  · have := h.least v'.2 h'.pm
    rw [← h'.c] at this
    exact this
  · have := h'.least v.2 h.pm
    rw [← h.c] at this
    exact this
def tld (wn : List (Nat × Nat)) (b : Vo) (t : Nat) (row : List Nat) : Vo := (b.1 + loss wn t row, b.2 ++ [t])
theorem bst_step {wn : List (Nat × Nat)} {r : List Nat} (nd : r.Nodup) (h0 : r ≠ []) {v : Vo} (hv : ∃ t b, t ∈ r ∧ Bst wn (r.erase t) b ∧ v = tld wn b t (r.erase t))
    (hm : ∀ t ∈ r, ∃ b, Bst wn (r.erase t) b ∧ leO v (tld wn b t (r.erase t)) = true) : Bst wn r v := by
  obtain ⟨t, b, ht, hb, rfl⟩ := hv
  have tn : ∀ t ∈ r, t ∉ r.erase t := fun t _ h => (nd.not_mem_erase) h
  refine ⟨?_, ?_, fun o ho => ?_⟩
  · show (b.2 ++ [t]).Perm r
    exact (List.perm_append_comm.trans (hb.pm.cons t)).trans (List.perm_cons_erase ht).symm
  · show b.1 + loss wn t (r.erase t) = cost wn (b.2 ++ [t])
    rw [cost_snoc wn b.2 (fun h => tn t ht (hb.pm.mem_iff.mp h)), hb.c, loss_perm wn t hb.pm]
  · have hne : o ≠ [] := fun e => by
      subst e
      exact h0 ho.nil_eq.symm
    obtain ⟨o', t', rfl⟩ : ∃ o' t', o = o' ++ [t'] := ⟨o.dropLast, o.getLast hne, (List.dropLast_concat_getLast hne).symm⟩
    have ht' : t' ∈ r := ho.mem_iff.mp (by simp)
    have po : o'.Perm (r.erase t') := by
      have h1 : (t' :: o').Perm r := (List.perm_append_comm.symm.trans ho : ([t'] ++ o').Perm r)
      have h2 := h1.erase t'
      rwa [List.erase_cons_head] at h2
    obtain ⟨b', hb', hle⟩ := hm t' ht'
    have nt' : t' ∉ o' := fun h => tn t' ht' (po.mem_iff.mp h)
    refine leO_t _ _ _ hle ?_
    rw [cost_snoc wn o' nt', loss_perm wn t' po]
    exact snoc_mono (c := b'.1) (o := b'.2) (by rw [hb'.pm.length_eq, po.length_eq]) (hb'.least o' po)
/-! rows -/
theorem row_nodup {n : Nat} {r : List Nat} (h : isRowN n r) : r.Nodup := h.1.imp fun h => Nat.ne_of_lt h
def insS (t : Nat) (row : List Nat) : List Nat := (row ++ [t]).eraseDups.mergeSort leZ
theorem lt_uniq {a b : List Nat} (h : a.Perm b) (ha : a.Pairwise (· < ·)) (hb : b.Pairwise (· < ·)) : a = b :=
  sorted_one (le := leZ) (fun x y h1 h2 => by unfold leZ at h1 h2; simp at h1 h2; omega) h (ha.imp fun h => by unfold leZ; simp; omega) (hb.imp fun h => by unfold leZ; simp; omega)
theorem ins_perm {n : Nat} {row : List Nat} (h : isRowN n row) {t : Nat} (ht : t ∉ row) : (insS t row).Perm (t :: row) := by
  unfold insS
  refine (List.mergeSort_perm _ _).trans ?_
  have nd : (row ++ [t]).Nodup := by
    rw [List.nodup_append]
    exact ⟨row_nodup h, by simp, fun a ha b hb => by rw [List.mem_singleton] at hb; subst hb; exact fun z => ht (z ▸ ha)⟩
  have p : (row ++ [t]).eraseDups.Perm (row ++ [t]) := by
    rw [List.perm_ext_iff_of_nodup (nodup_dups _ (Nat.le_refl _)) nd]
    intro a
    exact mem_dups
  exact p.trans List.perm_append_comm
theorem ins_row {n : Nat} {row : List Nat} (h : isRowN n row) {t : Nat} (ht : t ∉ row) (hn : t < n) : isRowN n (insS t row) := by
  have p := ins_perm h ht
  refine ⟨?_, fun x hx => ?_⟩
  · have s : (insS t row).Pairwise (fun a b => leZ a b = true) := List.pairwise_mergeSort (fun a b c h1 h2 => by unfold leZ at *; simp at *; omega) (fun a b => by unfold leZ; simp; omega) _
    have nd : (insS t row).Nodup := p.nodup_iff.mpr (List.nodup_cons.mpr ⟨ht, row_nodup h⟩)
    refine (s.and nd).imp fun {a b} h => ?_
    have h1 := h.1
    unfold leZ at h1
    simp at h1
    have := h.2
    omega
  · have := p.mem_iff.mp hx
    rcases List.mem_cons.mp this with rfl | h'
    · exact hn
    · exact h.2 x h'
theorem erase_row {n : Nat} {r : List Nat} (h : isRowN n r) (t : Nat) : isRowN n (r.erase t) := ⟨h.1.sublist List.erase_sublist, fun x hx => h.2 x (List.mem_of_mem_erase hx)⟩
theorem ins_erase {n : Nat} {row : List Nat} (h : isRowN n row) {t : Nat} (ht : t ∉ row) (hn : t < n) : (insS t row).erase t = row := by
  have p := (ins_perm h ht).erase t
  rw [List.erase_cons_head] at p
  exact lt_uniq p (erase_row (ins_row h ht hn) t).1 h.1
theorem erase_ins {n : Nat} {r : List Nat} (h : isRowN n r) {t : Nat} (ht : t ∈ r) : insS t (r.erase t) = r := by
  have nt : t ∉ r.erase t := (row_nodup h).not_mem_erase
  exact lt_uniq ((ins_perm (erase_row h t) nt).trans (List.perm_cons_erase ht).symm) (ins_row (erase_row h t) nt (h.2 t ht)).1 h.1
/-! the dict's state in a turn -/
abbrev Ks := List (List Nat × Vo)
def Cand (wn : List (Nat × Nat)) (D : List Nat → Nat → Prop) (r : List Nat) (v : Vo) : Prop := ∃ row t b, D row t ∧ Bst wn row b ∧ v = tld wn b t row ∧ r = insS t row
structure Qt (n : Nat) (wn : List (Nat × Nat)) (k : Nat) (D : List Nat → Nat → Prop) (ks : Ks) : Prop where
  dv : ∀ row t, D row t → isRowN n row ∧ row.length = k ∧ t < n ∧ t ∉ row
  key : ∀ p ∈ ks, isRowN n p.1 ∧ p.1.length ≤ k + 1
  done : ∀ r, isRowN n r → r.length ≤ k → ∃ v, ks.lookup r = some v ∧ Bst wn r v
  cur : ∀ r, isRowN n r → r.length = k + 1 → ∀ v, ks.lookup r = some v → Cand wn D r v ∧ ∀ v', Cand wn D r v' → leO v v' = true
  non : ∀ r, isRowN n r → r.length = k + 1 → ks.lookup r = none → ∀ v', ¬ Cand wn D r v'
theorem leO_r (v : Vo) : leO v v = true := by
  unfold leO
  rw [EncO.irr]
  rfl
theorem lt_le {a b : Vo} (h : EncO.lt a b = true) : leO a b = true := by
  unfold leO
  cases h2 : EncO.lt b a with
  | false => rfl
  | true =>
    have := EncO.tr _ _ _ h h2
    rw [EncO.irr] at this
    cases this
theorem q_step {n : Nat} {wn : List (Nat × Nat)} {k : Nat} {D : List Nat → Nat → Prop} {ks : Ks} (Q : Qt n wn k D ks) {row : List Nat} (hr : isRowN n row) (hk : row.length = k) {t : Nat} (hn : t < n) (ht : t ∉ row) {b : Vo} (hb : Bst wn row b) :
    Qt n wn k (fun a c => D a c ∨ (a = row ∧ c = t)) (if (!(ks.lookup (insS t row)).isSome || (match ks.lookup (insS t row) with | some w => EncO.lt (tld wn b t row) w | none => false)) = true then dputR ks (insS t row) (tld wn b t row) else ks) := by
  obtain ⟨r, er⟩ : ∃ r, r = insS t row := ⟨_, rfl⟩
  obtain ⟨v, ev⟩ : ∃ v, v = tld wn b t row := ⟨_, rfl⟩
  have rr : isRowN n r := er ▸ ins_row hr ht hn
  have rl : r.length = k + 1 := by rw [er, (ins_perm hr ht).length_eq, List.length_cons, hk]
  have cnew : Cand wn (fun a c => D a c ∨ (a = row ∧ c = t)) r v := ⟨row, t, b, .inr ⟨rfl, rfl⟩, hb, ev, er⟩
  have cup : ∀ r' v', Cand wn (fun a c => D a c ∨ (a = row ∧ c = t)) r' v' → Cand wn D r' v' ∨ (r' = r ∧ v' = v) := fun r' v' ⟨row', t', b', hd, hb', e1, e2⟩ => by
    rcases hd with hd | ⟨rfl, rfl⟩
    · exact .inl ⟨row', t', b', hd, hb', e1, e2⟩
    · have := bst_uniq hb hb'
      subst this
      exact .inr ⟨by rw [e2, er], by rw [e1, ev]⟩
  have cin : ∀ r' v', Cand wn D r' v' → Cand wn (fun a c => D a c ∨ (a = row ∧ c = t)) r' v' := fun r' v' ⟨row', t', b', hd, hb', e1, e2⟩ => ⟨row', t', b', .inl hd, hb', e1, e2⟩
  have dv : ∀ a c, (D a c ∨ (a = row ∧ c = t)) → isRowN n a ∧ a.length = k ∧ c < n ∧ c ∉ a := fun a c h => by
    rcases h with h | ⟨rfl, rfl⟩
    · exact Q.dv a c h
    · exact ⟨hr, hk, hn, ht⟩
  rw [← er, ← ev]
  have put : (∀ w, ks.lookup r = some w → leO v w = true) → Qt n wn k (fun a c => D a c ∨ (a = row ∧ c = t)) (dputR ks r v) := fun hle => by
    refine ⟨dv, fun p hp => ?_, fun r' h1 h2 => ?_, fun r' h1 h2 v' hv' => ?_, fun r' h1 h2 hv' v' hc => ?_⟩
    · rcases dputR_mem hp with hp | rfl
      · exact Q.key p hp
      · exact ⟨rr, by rw [rl]; exact Nat.le_refl _⟩
    · have : r' ≠ r := fun e => by rw [e, rl] at h2; omega
      rw [dputR_get, if_neg this]
      exact Q.done r' h1 h2
    · rw [dputR_get] at hv'
      by_cases e : r' = r
      · subst e
        rw [if_pos rfl] at hv'
        cases hv'
        refine ⟨cnew, fun v' hc => ?_⟩
        rcases cup _ _ hc with hc | ⟨_, rfl⟩
        · cases hl : ks.lookup r' with
          | none => exact absurd hc (Q.non r' h1 h2 hl v')
          | some w => exact leO_t _ _ _ (hle w hl) ((Q.cur r' h1 h2 w hl).2 v' hc)
        · exact leO_r _
      · rw [if_neg e] at hv'
        obtain ⟨c1, c2⟩ := Q.cur r' h1 h2 v' hv'
        refine ⟨cin _ _ c1, fun v'' hc => ?_⟩
        rcases cup _ _ hc with hc | ⟨h, _⟩
        · exact c2 _ hc
        · exact absurd h e
    · rw [dputR_get] at hv'
      by_cases e : r' = r
      · rw [if_pos e] at hv'; cases hv'
      · rw [if_neg e] at hv'
        rcases cup _ _ hc with hc | ⟨h, _⟩
        · exact Q.non r' h1 h2 hv' _ hc
        · exact e h
  cases hl : ks.lookup r with
  | none =>
    rw [if_pos (by simp)]
    exact put fun w hw => by rw [hl] at hw; cases hw
  | some w =>
    simp only [Option.isSome_some, Bool.not_true, Bool.false_or]
    cases hc : EncO.lt v w with
    | true =>
      rw [if_pos rfl]
      exact put fun w' hw => by rw [hl] at hw; cases hw; exact lt_le hc
    | false =>
      rw [if_neg (by simp)]
      have hle : leO w v = true := by unfold leO; rw [hc]; rfl
      refine ⟨dv, Q.key, Q.done, fun r' h1 h2 v' hv' => ?_, fun r' h1 h2 hv' v' hc' => ?_⟩
      · obtain ⟨c1, c2⟩ := Q.cur r' h1 h2 v' hv'
        refine ⟨cin _ _ c1, fun v'' hc' => ?_⟩
        rcases cup _ _ hc' with hc' | ⟨h, h'⟩
        · exact c2 _ hc'
        · subst h h'
          rw [hl] at hv'
          cases hv'
          exact hle
      · rcases cup _ _ hc' with hc' | ⟨h, _⟩
        · exact Q.non r' h1 h2 hv' _ hc'
        · rw [h, hl] at hv'; cases hv'
theorem q_turn {n : Nat} {wn : List (Nat × Nat)} {k : Nat} {D : List Nat → Nat → Prop} {ks : Ks} (Q : Qt n wn k D ks) (full : ∀ row t, isRowN n row → row.length = k → t < n → t ∉ row → D row t) : Qt n wn (k + 1) (fun _ _ => False) ks := by
  refine ⟨fun _ _ h => h.elim, fun p hp => ⟨(Q.key p hp).1, by have := (Q.key p hp).2; omega⟩, fun r h1 h2 => ?_, fun r h1 h2 v hv => ?_, fun r h1 h2 hv v' hc => ?_⟩
  · by_cases hl : r.length ≤ k
    · exact Q.done r h1 hl
    · have hl : r.length = k + 1 := by omega
      have h0 : r ≠ [] := fun e => by rw [e] at hl; simp at hl
      have nd := row_nodup h1
      have some1 : ∀ t ∈ r, ∃ b, Bst wn (r.erase t) b ∧ Cand wn D r (tld wn b t (r.erase t)) := fun t ht => by
        have he := erase_row h1 t
        have el : (r.erase t).length = k := by rw [List.length_erase_of_mem ht]; omega
        obtain ⟨b, _, hb⟩ := Q.done _ he (by omega)
        exact ⟨b, hb, r.erase t, t, b, full _ t he el (h1.2 t ht) nd.not_mem_erase, hb, rfl, (erase_ins h1 ht).symm⟩
      cases hv : ks.lookup r with
      | none =>
        obtain ⟨t, ht⟩ := List.exists_mem_of_ne_nil r h0
        obtain ⟨b, _, hc⟩ := some1 t ht
        exact absurd hc (Q.non r h1 hl hv _)
      | some v =>
        refine ⟨v, rfl, ?_⟩
        obtain ⟨⟨row, t, b, hd, hb, e1, e2⟩, c2⟩ := Q.cur r h1 hl v hv
        obtain ⟨d1, d2, d3, d4⟩ := Q.dv row t hd
        have er : r.erase t = row := by rw [e2]; exact ins_erase d1 d4 d3
        have ht : t ∈ r := by rw [e2]; exact (ins_perm d1 d4).mem_iff.mpr List.mem_cons_self
        exact bst_step nd h0 ⟨t, b, ht, by rw [er]; exact hb, by rw [er]; exact e1⟩ fun t' ht' => by
          obtain ⟨b', hb', hc'⟩ := some1 t' ht'
          exact ⟨b', hb', c2 _ hc'⟩
  · have : r ∈ ks.map (·.1) := List.mem_map.mpr ⟨_, look_mem hv, rfl⟩
    obtain ⟨p, hp, e⟩ := List.mem_map.mp this
    have := (Q.key p hp).2
    rw [e] at this
    omega
  · obtain ⟨_, _, _, h, _⟩ := hc
    exact h
theorem q_start (n : Nat) (wn : List (Nat × Nat)) : Qt n wn 0 (fun _ _ => False) [([], ((0, []) : Vo))] := by
  refine ⟨fun _ _ h => h.elim, fun p hp => ?_, fun r h1 h2 => ?_, fun r h1 h2 v hv => ?_, fun r h1 h2 hv v' hc => ?_⟩
  · rw [List.mem_singleton] at hp
    subst hp
    exact ⟨⟨List.Pairwise.nil, fun x hx => by cases hx⟩, Nat.zero_le _⟩
  · have : r = [] := List.eq_nil_of_length_eq_zero (by omega)
    subst this
    refine ⟨(0, []), rfl, List.Perm.refl _, ?_, fun o ho => ?_⟩
    · show 0 = cost wn []
      unfold cost
      symm
      rw [List.countP_eq_zero]
      intro p _
      simp
    · have : o = [] := ho.symm.nil_eq.symm
      subst this
      rw [leV]
      have : cost wn [] = 0 := by
        unfold cost
        rw [List.countP_eq_zero]
        intro p _
        simp
      exact .inr ⟨this.symm, by
        show leO ([] : List Nat) [] = true
        unfold leO
        rw [EncO.irr]
        rfl⟩
  · cases r with
    | nil => simp at h2
    | cons x r =>
      rw [List.lookup_cons] at hv
      have : ((x :: r) == ([] : List Nat)) = false := rfl
      rw [this] at hv
      cases hv
  · obtain ⟨_, _, _, h, _⟩ := hc
    exact h
theorem q_more {n : Nat} {wn : List (Nat × Nat)} {k : Nat} {D D' : List Nat → Nat → Prop} {ks : Ks} (Q : Qt n wn k D ks) (h : ∀ a c, D a c ↔ D' a c) : Qt n wn k D' ks := by
  have : D = D' := by
    funext a c
    exact propext (h a c)
  rw [← this]
  exact Q
end Row
end

section
set_option maxRecDepth 100000
set_option maxHeartbeats 400000
namespace Row
open PySem PySem.Spec PyProof.Rows L2 Ev
open Enc (enc)
/-! ### the law's own draws: the hand is the first cell of the store -/
structure Hnd where
  cells : List Int
  p : Int
  q : Int
  m : Int
  c : Int
def Hnd.cell (h : Hnd) : List PyData := [.list (h.cells.map .int), .int h.p, .int h.q, .int h.m, .int h.c]
structure GoodH (k : Nat) (h : Hnd) : Prop where
  cs : ∀ x ∈ h.cells, 0 ≤ x ∧ Builtin.Int.intBits x ≤ 1048576
  p : 0 ≤ h.p
  q : 0 ≤ h.q ∧ Builtin.Int.intBits h.q ≤ 1048576
  m : 0 ≤ h.m ∧ h.m < 2147483648
  c : 0 ≤ h.c ∧ h.c ≤ k
/-- the store of a law that has drawn k times at most -/
def Good (k : Nat) (st : Store) : Prop := ∃ h : Hnd, st = [h.cell] ∧ GoodH k h
theorem Good.mono {k k' : Nat} {st : Store} (g : Good k st) (h : k ≤ k') : Good k' st := by
  obtain ⟨x, e, g⟩ := g
  exact ⟨x, e, g.cs, g.p, g.q, g.m, g.c.1, by have := g.c.2; omega⟩
theorem small_bits {i : Int} (h : i.natAbs < 18446744073709551616) : Builtin.Int.intBits i ≤ 1048576 := by
  refine Nat.le_trans ((intBits_le_iff (m := 64)).mpr ?_) (by decide)
  exact Nat.lt_of_lt_of_le h (by decide)
theorem bits_ok {i j : Int} (hi : Builtin.Int.intBits i ≤ 1048576) (hj : Builtin.Int.intBits j ≤ 1048576) : bitsOk i j = true := by
  unfold bitsOk
  simp only [decide_eq_true_eq]
  omega
theorem pow_18 : powD (.int 10) (.int 18) = some (.int 1000000000000000000) := by
  simp [powD]
theorem ixN_i {m : Nat} {i : Int} (h : 0 ≤ i) (h2 : i < m) : ixN m i = some i.toNat := by
  simp [ixN, h, h2]
theorem draw1 {k : Nat} {h : Hnd} (g : GoodH k h) (n : Int) : ∃ s3 h', i1__law_draw [some (loc 0, false), some (.int n, false), none, none, none] [h.cell] = .nx [some (loc 0, false), some (.int n, false), none, s3, none] [h'.cell] ∧ GoodH k h' := by
  obtain ⟨cells, p, q, m, c⟩ := h
  have gp := g.p
  have gm := g.m
  have gc := g.c
  by_cases hq : q = 0
  · by_cases hp : p < cells.length
    · obtain ⟨x, hx⟩ : ∃ x, cells[p.toNat]? = some x := ⟨_, List.getElem?_eq_getElem (by simp at gp; omega)⟩
      have hx' := g.cs x (List.mem_of_getElem? hx)
      have i1 : ixN cells.length p = some p.toNat := ixN_i gp hp
      have b1 : bitsOk m 69621 = true := bits_ok (small_bits (by simp at gm; omega)) (small_bits (by decide))
      have b2 : bitsOk x 40692 = true := bits_ok hx'.2 (small_bits (by decide))
      have e1 : ixD (.list (cells.map .int)) (.int p) = some (.int x) := by
        show atI _ _ = _
        unfold atI
        rw [List.length_map, i1, Option.bind_some, List.getElem?_map, hx]
        rfl
      have m1 : 0 ≤ (m * 69621 + x * 40692 + 37) % 2147483629 ∧ (m * 69621 + x * 40692 + 37) % 2147483629 < 2147483648 := by omega
      by_cases h18 : 1000000000000000000 ≤ x
      · refine ⟨some (.int x, false), ⟨cells, p + 1, x, (m * 69621 + x * 40692 + 37) % 2147483629, c⟩, ?_, g.cs, by simp at gp ⊢; omega, hx', m1, gc⟩
        simp [i1__law_draw, Hnd.cell, hq, hp, e1, atI, ixN, mulD_i, b1, b2, modD_i, pow_18, h18]
      · refine ⟨some (.int x, false), ⟨cells, p + 1, 0, (m * 69621 + x * 40692 + 37) % 2147483629, c⟩, ?_, g.cs, by simp at gp ⊢; omega, ⟨Int.le_refl _, small_bits (i := 0) (by decide)⟩, m1, gc⟩
        simp [i1__law_draw, Hnd.cell, hq, hp, e1, atI, ixN, mulD_i, b1, b2, modD_i, pow_18, h18]
    · refine ⟨none, ⟨cells, p, q, m, c⟩, ?_, g⟩
      simp [i1__law_draw, Hnd.cell, hq, hp, atI, ixN]
  · refine ⟨none, ⟨cells, p, q, m, c⟩, ?_, g⟩
    simp [i1__law_draw, Hnd.cell, hq, atI, ixN]
theorem v_draw {k : Nat} (hk : k < 1000000000) {st : Store} (g : Good k st) {n : Nat} (h0 : 0 < n) (h1 : n < 1000000) : ∃ (d : Nat) (st' : Store), m__law_draw [loc 0, .int n] st = .ok (.int d) st' ∧ d < n ∧ Good (k + 1) st' := by
  obtain ⟨h, rfl, g⟩ := g
  obtain ⟨s3, h', e1, g'⟩ := draw1 g n
  obtain ⟨cells, p, q, m, c⟩ := h'
  have gq := g'.q
  have gm := g'.m
  have gc := g'.c
  simp only at gq gm gc
  have n0 : (0 : Int) < n := by omega
  have n1 : (n : Int) < 1073741824 := by omega
  by_cases hq : 0 < q
  · have a1 : 0 ≤ q % n := Int.emod_nonneg _ (by omega)
    have a2 : q % n < n := Int.emod_lt_of_pos _ n0
    obtain ⟨d, hd⟩ := Int.eq_ofNat_of_zero_le a1
    refine ⟨d, [Hnd.cell ⟨cells, p, q / n, m, c⟩], ?_, by omega, ⟨_, rfl, g'.cs, g'.p, ⟨Int.ediv_nonneg gq.1 (by omega), ?_⟩, gm, gc.1, by simp; omega⟩⟩
    · simp [m__law_draw, e1]
      simp [i2__law_draw, Hnd.cell, hq, atI, ixN, modD_i, divD_i, n0, n1, h0, hd, show n < 1073741824 by omega]
    · refine intBits_le_of_natAbs ?_ gq.2
      have : q / n ≤ q := Int.ediv_le_self _ gq.1
      have : 0 ≤ q / n := Int.ediv_nonneg gq.1 (by omega)
      show (q / n).natAbs ≤ q.natAbs
      omega
  · have b1 : bitsOk 7919 (c + 1) = true := bits_ok (small_bits (by decide)) (small_bits (by omega))
    have b2 : bitsOk (m + 7919 * (c + 1)) 48271 = true := bits_ok (small_bits (by omega)) (small_bits (by decide))
    generalize z1 : ((m + 7919 * (c + 1)) * 48271) % 2147483647 = r1
    have q1 : 0 ≤ r1 ∧ r1 < 2147483648 := by omega
    have b3 : bitsOk r1 (r1 / 1009 + 69621) = true := bits_ok (small_bits (by omega)) (small_bits (by omega))
    generalize z2 : (r1 * (r1 / 1009 + 69621)) % 2147483647 = r2
    have q2 : 0 ≤ r2 ∧ r2 < 2147483648 := by
      have := Int.emod_nonneg (r1 * (r1 / 1009 + 69621)) (b := 2147483647) (by decide)
      have := Int.emod_lt_of_pos (r1 * (r1 / 1009 + 69621)) (b := 2147483647) (by decide)
      omega
    have b4 : bitsOk r2 (r2 / 2003 + 40014) = true := bits_ok (small_bits (by omega)) (small_bits (by omega))
    generalize z3 : (r2 * (r2 / 2003 + 40014)) % 2147483563 = r3
    have a1 : 0 ≤ (r3 / 16) % n := Int.emod_nonneg _ (by omega)
    have a2 : (r3 / 16) % n < n := Int.emod_lt_of_pos _ n0
    obtain ⟨d, hd⟩ := Int.eq_ofNat_of_zero_le a1
    refine ⟨d, [Hnd.cell ⟨cells, p, q, m, c + 1⟩], ?_, by omega, ⟨_, rfl, g'.cs, g'.p, gq, gm, by simp; omega, by simp; omega⟩⟩
    simp [m__law_draw, e1]
    simp [i2__law_draw, Hnd.cell, hq, atI, ixN, modD_i, divD_i, mulD_i, n0, h0, b1, b2, b3, b4, z1, z2, z3, hd]
theorem v_is_integer (a : Int) (st : Store) : m_is_integer [.int a] st = .ok (.bool true) st := rfl
theorem v_is_within (a lo hi : Int) (st : Store) : m_is_within [.int a, .int lo, .int hi] st = .ok (.bool (decide (lo ≤ a) && decide (a ≤ hi))) st := by
  by_cases h : lo ≤ a <;> simp [m_is_within, v_is_integer, h]
theorem v_are_below (xs : List Nat) (many : Int) (st : Store) (hl : xs.length ≤ 1000) : m_are_below [tE xs, .int many] st = .ok (.bool (xs.all fun x => decide ((x : Int) < many))) st := by
  have e : c1_are_below [some (tE xs, false), some (.int many, false), none] st = .ok (.list (xs.map fun (x : Nat) => .bool (decide ((x : Int) < many)))) st := by
    refine lc_a xs enc _ rfl (fun x hx => ⟨_, rfl, ?_⟩) (by simp; omega)
    simp [v_is_within, Int.le_sub_one_iff]
  simp [m_are_below, e, allD_m]
theorem v_check_league (t : Int) (g : PyData) (st : Store) : m_check_league [lea t g] st = .ok .none st := rfl
theorem v_check_league_bad (d : PyData) (st : Store) (h : isaD "League" d = some (.bool false)) : m_check_league [d] st = .exn ⟨xn_NoLeague, []⟩ st := by
  simp [m_check_league, h]
theorem v_everybody (t : Nat) (g : PyData) (st : Store) (h : t ≤ 1000) : m_everybody [lea t g] st = .ok (tE (List.range t)) st := by
  simp [m_everybody, h]
theorem v_is_side (b : Bool) (st : Store) : m_is_side [.int b.toNat] st = .ok (.bool true) st := by
  cases b <;> rfl
theorem v_are_results (t : Int) (gs : List (Nat × Nat)) (rs : List (Option Bool)) (st : Store) (h : gs.length = rs.length) (hl : gs.length ≤ 1000) : m_are_results [lea t (tE gs), tE rs] st = .ok (.bool true) st := by
  have e : c1_are_results [some (lea t (tE gs), false), some (tE rs, false), none] st = .ok (.list (rs.map fun (x : Option Bool) => .bool true)) st := by
    refine lc_a rs enc _ rfl (fun x hx => ⟨_, rfl, ?_⟩) (by simp; omega)
    cases x with
    | none => simp
    | some b => simp [enc, v_is_side]
  simp [m_are_results, e, allD_m, h]
theorem v_check_results (t : Int) (gs : List (Nat × Nat)) (rs : List (Option Bool)) (st : Store) (h : gs.length = rs.length) (hl : gs.length ≤ 1000) : m_check_results [lea t (tE gs), tE rs] st = .ok .none st := by
  simp [m_check_results, v_check_league, v_are_results _ _ _ _ h hl]
def isRowB (xs : List Nat) (many : Nat) : Bool := (xs.all fun x => decide (x < many)) && (xs.zip (xs.tail)).all fun p => decide (p.1 < p.2)
/-! decided games -/
def wl (p : Nat × Nat) (b : Bool) : Nat × Nat := if b then (p.2, p.1) else (p.1, p.2)
def won (gs : List (Nat × Nat)) (rs : List (Option Bool)) : List (Nat × Nat) := (gs.zip rs).filterMap fun x => x.2.map (wl x.1)
def dec (rs : List (Option Bool)) : List Nat := (rs.zipIdx.filter fun p => !p.1.isNone).map (·.2)
def wlAt (gs : List (Nat × Nat)) (rs : List (Option Bool)) (i : Nat) : Nat × Nat := match gs[i]?, rs[i]? with
  | some p, some (some b) => wl p b
  | _, _ => (0, 0)
theorem dec_len (rs : List (Option Bool)) : (dec rs).length ≤ rs.length := by
  unfold dec
  rw [List.length_map]
  refine Nat.le_trans (List.length_filter_le _ _) ?_
  simp
theorem dec_mem {gs : List (Nat × Nat)} {rs : List (Option Bool)} (h : gs.length = rs.length) {i : Nat} (hi : i ∈ dec rs) : ∃ p b, gs[i]? = some p ∧ rs[i]? = some (some b) ∧ wlAt gs rs i = wl p b := by
  unfold dec at hi
  obtain ⟨⟨r, j⟩, hm, rfl⟩ := List.mem_map.mp hi
  obtain ⟨hm, hp⟩ := List.mem_filter.mp hm
  obtain ⟨_, h1, h2⟩ := List.mem_zipIdx hm
  have hj : j < rs.length := by omega
  cases r with
  | none => simp at hp
  | some b =>
    have e1 : rs[j]? = some (some b) := by
      rw [List.getElem?_eq_getElem hj, h2]
      simp
    have e2 : gs[j]? = some gs[j] := List.getElem?_eq_getElem (by omega)
    refine ⟨gs[j], b, e2, e1, ?_⟩
    simp only [wlAt, e1, e2]
theorem dec_map_go (gs0 : List (Nat × Nat)) (rs0 : List (Option Bool)) : ∀ (gs : List (Nat × Nat)) (rs : List (Option Bool)) (k : Nat), gs.length = rs.length → gs0.drop k = gs → rs0.drop k = rs →
    (((rs.zipIdx k).filter fun p => !p.1.isNone).map (·.2)).map (wlAt gs0 rs0) = won gs rs
  | [], [], k, _, _, _ => rfl
  | g :: gs, r :: rs, k, h, h1, h2 => by
    have ih := dec_map_go gs0 rs0 gs rs (k + 1) (by simpa using h) (by rw [← List.drop_drop, h1]; rfl) (by rw [← List.drop_drop, h2]; rfl)
    have e1 : gs0[k]? = some g := by
      have := List.getElem?_drop (xs := gs0) (i := k) (j := 0)
      rw [h1] at this
      simpa using this.symm
    have e2 : rs0[k]? = some r := by
      have := List.getElem?_drop (xs := rs0) (i := k) (j := 0)
      rw [h2] at this
      simpa using this.symm
    rw [List.zipIdx_cons]
    cases r with
    | none =>
      rw [List.filter_cons_of_neg (by simp), ih]
      rfl
    | some b =>
      rw [List.filter_cons_of_pos (by rfl), List.map_cons, List.map_cons, ih]
      have : wlAt gs0 rs0 k = wl g b := by simp only [wlAt, e1, e2]
      show wlAt gs0 rs0 k :: _ = _
      rw [this]
      rfl
theorem dec_map {gs : List (Nat × Nat)} {rs : List (Option Bool)} (h : gs.length = rs.length) : (dec rs).map (wlAt gs rs) = won gs rs := dec_map_go gs rs gs rs 0 h rfl rfl
theorem v_decided_of (rs : List (Option Bool)) (st : Store) (hl : rs.length ≤ 1000) : m_decided_of [tE rs] st = .ok (lE (dec rs)) st := by
  have e : c1_decided_of [some (tE rs, false), none, none] st = .ok (lE (dec rs)) st := by
    refine (lc_t rs.zipIdx (fun p => .tuple [.int (p.2 : Nat), enc p.1]) (fun p => !p.1.isNone) (fun p => enc p.2) ?_ (fun x hx => ⟨_, rfl, ?_, fun _ => ?_⟩) (by simp; omega)).trans ?_
    · simp [enu_t]
    · simp
    · simp
    · unfold dec lE
      rw [List.map_map]
      rfl
  simp [m_decided_of, e]
theorem v_winner_of (t : Int) {gs : List (Nat × Nat)} {rs : List (Option Bool)} (h : gs.length = rs.length) {i : Nat} (hi : i ∈ dec rs) (st : Store) : m_winner_of [lea t (tE gs), tE rs, .int i] st = .ok (.int ((wlAt gs rs i).1 : Nat)) st := by
  obtain ⟨⟨p, q⟩, b, h1, h2, h3⟩ := dec_mem h hi
  simp only [m_winner_of]
  simp [ix_t h1, ix_t h2, h3]
  cases b <;> rfl
theorem v_loser_of (t : Int) {gs : List (Nat × Nat)} {rs : List (Option Bool)} (h : gs.length = rs.length) {i : Nat} (hi : i ∈ dec rs) (st : Store) : m_loser_of [lea t (tE gs), tE rs, .int i] st = .ok (.int ((wlAt gs rs i).2 : Nat)) st := by
  obtain ⟨⟨p, q⟩, b, h1, h2, h3⟩ := dec_mem h hi
  simp only [m_loser_of]
  simp [ix_t h1, ix_t h2, h3]
  cases b <;> rfl
def W (won : List (Nat × Nat)) (i : Nat) : Nat := won.countP fun p => p.1 == i
theorem W_count (won : List (Nat × Nat)) (i : Nat) : (won.map (·.1)).count i = W won i := by
  unfold W List.count
  rw [List.countP_map]
  rfl
theorem v_law_hand (ns : List Int) (hl : ns.length ≤ 63) (st : Store) : m__law_hand [frzl (ns.map .int)] st = .ok (.list [.list ((ns.map fun z => (z.natAbs : Int)).map .int), .int 0, .int 0, .int (877 + 5 * (ns.length : Int)), .int 0]) st := by
  have cu : cutD (frzl (ns.map .int)) none (some 63) = some (.list (ns.map .int)) := by
    show some (PyData.list (cutL _ none (some ((63 : Nat) : Int)))) = _
    rw [cut_take, List.take_of_length_le (by simpa using hl)]
  have c1 : ∀ s1 s2, c1__law_hand [some (frzl (ns.map .int), false), s1, s2] st = .ok (.list ((ns.map fun z => (z.natAbs : Int)).map .int)) st := fun s1 s2 => by
    refine (lc_a ns PyData.int (fun z => .int (z.natAbs : Int)) ?_ (fun y hy => ⟨_, rfl, ?_⟩) (by simp; omega)).trans ?_
    · simp [cu]
    · simp
    · rw [List.map_map]
      rfl
  have nl : noLs ((ns.map fun z => (z.natAbs : Int)).map PyData.int) = true := noLs_map (ns.map fun z => (z.natAbs : Int))
  have b1 : bitsOk 5 (ns.length : Int) = true := bits_ok (small_bits (by decide)) (small_bits (by omega))
  simp [m__law_hand, c1, nl, mulD_i, b1, -List.map_map]
theorem pairOk_enc {t : Nat} {p : Nat × Nat} : pairOk t (enc p) = decide (p.1 < p.2 ∧ p.2 < t) := by
  obtain ⟨a, b⟩ := p
  show decide (0 ≤ (a : Int) ∧ (a : Int) < b ∧ (b : Int) < t) = _
  simp
theorem v_League {t : Nat} {gs : List (Nat × Nat)} (h1 : 1 ≤ t) (h8 : t ≤ 8) (hl : gs.length ≤ 24) (g : gsOk t gs) (st : Store) : mk_League [.int t, tE gs] st = .ok (lea t (tE gs)) st := by
  show (if leaOk t (tE gs) = true then _ else _) = _
  rw [if_pos]
  show (decide (1 ≤ (t : Int) ∧ (t : Int) ≤ 8 ∧ (gs.map enc).length ≤ 24) && (gs.map enc).all (pairOk t)) = true
  rw [Bool.and_eq_true]
  refine ⟨by simp; omega, ?_⟩
  rw [List.all_map, List.all_eq_true]
  intro p hp
  show pairOk t (enc p) = true
  rw [pairOk_enc]
  simpa using g p hp
/-- the games and results of a drawn league -/
structure Lg (t : Nat) (gs : List (Nat × Nat)) (rs : List (Option Bool)) : Prop where
  t1 : 1 ≤ t
  t8 : t ≤ 8
  l : gs.length ≤ 23
  ok : gsOk t gs
  e : gs.length = rs.length
theorem gsOk_add {t : Nat} {gs : List (Nat × Nat)} (g : gsOk t gs) {a b : Nat} (ha : a < t) (hb : b < t) (hab : a ≠ b) : gsOk t (gs ++ [(min a b, max a b)]) := by
  intro p hp
  rcases List.mem_append.mp hp with hp | hp
  · exact g p hp
  · rw [List.mem_singleton] at hp
    subst hp
    simp only
    omega
/-! ### refusals -/
theorem v_any {k : Nat} (hk : k < 900000000) {st : Store} (g : Good k st) {ds : List PyData} (h0 : 0 < ds.length) (h1 : ds.length < 1000) : ∃ (x : PyData) (st' : Store), m__law_any [loc 0, .list ds] st = .ok x st' ∧ x ∈ ds ∧ Good (k + 1) st' := by
  obtain ⟨d, st', e, hd, g'⟩ := v_draw (by omega) g (n := ds.length) h0 (by omega)
  have i := ixD_l (xs := ds) (i := d) (x := ds[d]) (List.getElem?_eq_getElem hd)
  refine ⟨ds[d], st', ?_, List.getElem_mem _, g'⟩
  simp [m__law_any, e, i]
theorem are_results_bad {t : Nat} {gs : List (Nat × Nat)} {d : PyData} (h : isaD "tuple" d = some (.bool false) ∨ ∃ xs, d = .tuple xs ∧ xs.length ≠ gs.length) (st : Store) : m_are_results [lea t (tE gs), d] st = .ok (.bool false) st := by
  rcases h with h | ⟨xs, rfl, h⟩
  · simp [m_are_results, h]
  · have : ((xs.length : Int) == (gs.length : Int)) = false := by simp; omega
    simp [m_are_results, this]
theorem check_results_bad {t : Nat} {gs : List (Nat × Nat)} {d : PyData} (h : isaD "tuple" d = some (.bool false) ∨ ∃ xs, d = .tuple xs ∧ xs.length ≠ gs.length) (st : Store) : m_check_results [lea t (tE gs), d] st = .exn ⟨xn_BadResults, []⟩ st := by
  simp [m_check_results, v_check_league, are_results_bad h]
theorem check_results_no {d : PyData} (h : isaD "League" d = some (.bool false)) (r : PyData) (st : Store) : m_check_results [d, r] st = .exn ⟨xn_NoLeague, []⟩ st := by
  simp [m_check_results, v_check_league_bad d st h]

/-! ### a drawn league -/
theorem mod_ne {t a d : Nat} (ht : 1 < t) (ha : a < t) (hd : d < t - 1) : (a + 1 + d) % t ≠ a ∧ (a + 1 + d) % t < t := by
  refine ⟨?_, Nat.mod_lt _ (by omega)⟩
  by_cases h : a + 1 + d < t
  · rw [Nat.mod_eq_of_lt h]; omega
  · rw [Nat.mod_eq_sub_mod (by omega), Nat.mod_eq_of_lt (by omega)]; omega
theorem v_law_league {k : Nat} (hk : k < 900000000) {st : Store} (g : Good k st) (most share : Nat) (hm : most ≤ 100) : ∃ (t : Nat) (gs : List (Nat × Nat)) (rs : List (Option Bool)) (st' : Store),
    m__law_league [loc 0, .int most, .int share] st = .ok (.tuple [.int t, tE gs, tE rs]) st' ∧ 1 ≤ t ∧ t ≤ 5 ∧ gsOk t gs ∧ gs.length ≤ most ∧ gs.length = rs.length ∧ Good (k + 1000) st' := by
  obtain ⟨d1, st1, e1, hd1, g1⟩ := v_draw (by omega) g (n := 5) (by omega) (by omega)
  have e1' : m__law_draw [loc 0, .int 5] st = .ok (.int d1) st1 := e1
  obtain ⟨t, ht⟩ : ∃ t : Nat, t = d1 + 1 := ⟨_, rfl⟩
  have tc : (1 : Int) + (d1 : Int) = (t : Int) := by omega
  -- how many games
  have hn : ∃ (n : Nat) (st2 : Store), (∀ s3 s4 s7 s8 s9, eIf (eB (eOp gtB (eVar 5) (eC (.int 1)))) (eCall m__law_draw (eCons (eVar 0) (eCons (eOp addD (eVar 1) (eC (.int 1))) eNil))) (eC (.int 0)) [some (loc 0, false), some (.int most, false), some (.int share, false), s3, s4, some (.int t, false), some (.list [], true), s7, s8, s9] st1 = .ok (.int n) st2) ∧ n ≤ most ∧ (t = 1 → n = 0) ∧ Good (k + 2) st2 := by
    by_cases h : 1 < t
    · obtain ⟨d2, st2, e2, hd2, g2⟩ := v_draw (by omega) g1 (n := most + 1) (by omega) (by omega)
      have e2' : m__law_draw [loc 0, .int ((most : Int) + 1)] st1 = .ok (.int d2) st2 := e2
      refine ⟨d2, st2, fun s3 s4 s7 s8 s9 => ?_, by omega, fun h => by omega, g2⟩
      have h' : (1 : Int) < (t : Int) := by omega
      simp [h', e2']
    · refine ⟨0, st1, fun s3 s4 s7 s8 s9 => ?_, by omega, fun _ => rfl, g1.mono (by omega)⟩
      have h' : ¬ (1 : Int) < (t : Int) := by omega
      simp [h']
  obtain ⟨n, st2, e2, hn1, hn2, g2⟩ := hn
  have loop : ∃ gs st3 s3 s7 s8, forGo (gN 3) b1__law_league ((List.range n).map enc) [some (loc 0, false), some (.int most, false), some (.int share, false), none, none, some (.int t, false), some (.list [], true), none, none, none] st2
      = .nx [some (loc 0, false), some (.int most, false), some (.int share, false), s3, none, some (.int t, false), some (lE gs, true), s7, s8, none] st3 ∧ gsOk t gs ∧ gs.length = n ∧ Good (k + 2 + 2 * n) st3 := by
    refine for_t (R := fun r => ∃ gs st3 s3 s7 s8, r = .nx [some (loc 0, false), some (.int most, false), some (.int share, false), s3, none, some (.int t, false), some (lE gs, true), s7, s8, none] st3 ∧ gsOk t gs ∧ gs.length = n ∧ Good (k + 2 + 2 * n) st3) enc
      (fun done ρ st' => ∃ (gs : List (Nat × Nat)) (s3 s7 s8 : Ev.Slot), ρ = [some (loc 0, false), some (.int most, false), some (.int share, false), s3, none, some (.int t, false), some (lE gs, true), s7, s8, none] ∧ gsOk t gs ∧ gs.length = done.length ∧ Good (k + 2 + 2 * done.length) st')
      (List.range n) ⟨[], none, none, none, rfl, (fun p hp => by cases hp), rfl, g2⟩ ?_ ?_
    · rintro done x rest ρ st' ee ⟨gs, s3, s7, s8, rfl, hgs, hln, gd⟩
      have hdn : done.length < n := by
        have := congrArg List.length ee
        simp at this
        omega
      have ht1 : 1 < t := by
        by_cases h : t = 1
        · have := hn2 h
          omega
        · omega
      obtain ⟨a, st4, e4, ha, g4⟩ := v_draw (by omega) gd (n := t) (by omega) (by omega)
      obtain ⟨d, st5, e5, hd, g5⟩ := v_draw (by omega) g4 (n := t - 1) (by omega) (by omega)
      have e5' : m__law_draw [loc 0, .int ((t : Int) - 1)] st4 = .ok (.int d) st5 := by
        have : ((t - 1 : Nat) : Int) = (t : Int) - 1 := by omega
        rw [← this]
        exact e5
      obtain ⟨q1, q2⟩ := mod_ne ht1 ha hd
      obtain ⟨b, hb⟩ : ∃ b : Nat, b = (a + 1 + d) % t := ⟨_, rfl⟩
      rw [← hb] at q1 q2
      have cb : ((a : Int) + 1 + (d : Int)) % (t : Int) = (b : Int) := by
        rw [hb]
        simp
      have cmin : min (a : Int) (b : Int) = ((min a b : Nat) : Int) := by omega
      have cmax : max (a : Int) (b : Int) = ((max a b : Nat) : Int) := by omega
      refine ⟨_, rfl, ?_⟩
      have t0 : 0 < t := by omega
      have fin : gsOk t (gs ++ [(min a b, max a b)]) := by
        intro p hp
        rcases List.mem_append.mp hp with hp | hp
        · exact hgs p hp
        · rw [List.mem_singleton] at hp
          subst hp
          simp only
          omega
      have g5' : Good (k + 2 + 2 * (done ++ [x]).length) st5 := g5.mono (by simp; omega)
      simp [b1__law_league, e4, e5', modD_i, t0, cb, cmin, cmax, -List.map_map, show gs.length < 16777216 by omega]
      exact ⟨gs ++ [(min a b, max a b)], by simp, fin, by simp [hln], by simpa using g5'⟩
    · rintro ρ st' ⟨gs, s3, s7, s8, rfl, hgs, hln, gd⟩
      rw [List.length_range] at hln gd
      exact ⟨gs, st', s3, s7, s8, rfl, hgs, hln, gd⟩
  obtain ⟨gs, st3, s3, s7, s8, e3, hgs, hln, g3⟩ := loop
  have lc := lc_s (i := iSeq (eVar 6)) (own := [9]) (g := gN 9) (c := cYes) (e := eIf (eB (eOp ltB (eCall m__law_draw (eCons (eVar 0) (eCons (eC (.int 10)) eNil))) (eVar 2))) (eC .none) (eCall m__law_draw (eCons (eVar 0) (eCons (eC (.int 2)) eNil))))
    (ρ := [some (loc 0, false), some (.int most, false), some (.int share, false), s3, none, some (.int t, false), some (lE gs, true), s7, s8, none]) (st := st3) gs enc
    (fun done rs st' => ∃ rs' : List (Option Bool), rs = rs'.map enc ∧ rs'.length = done.length ∧ Good (k + 2 + 2 * n + 2 * done.length) st') (by simp) ⟨[], rfl, rfl, g3⟩ ?_ (by simp; omega)
  · obtain ⟨rs, st4, e4, rs', rfl, hl4, g4⟩ := lc
    have c1 : c1__law_league [some (loc 0, false), some (.int most, false), some (.int share, false), s3, none, some (.int t, false), some (lE gs, true), s7, s8, none] st3 = .ok (.list (rs'.map enc)) st4 := e4
    refine ⟨t, gs, rs', st4, ?_, by omega, by omega, hgs, by omega, by omega, g4.mono (by omega)⟩
    have e2' := e2 none none none none none
    simp at e2'
    have hr := rng1_n n (show n ≤ 1000 by omega)
    simp [m__law_league, e1', tc, e2', hr, e3, c1, -List.map_map]
  · rintro done x rest rs st' ee ⟨rs', rfl, hl', g'⟩
    have hdn : done.length < gs.length := by
      have := congrArg List.length ee
      simp at this
      omega
    refine ⟨_, rfl, .inr ?_⟩
    obtain ⟨a, st4, e4, ha, g4⟩ := v_draw (by omega) g' (n := 10) (by omega) (by omega)
    have e4' : m__law_draw [loc 0, .int 10] st' = .ok (.int a) st4 := e4
    by_cases hs : a < share
    · refine ⟨st', .none, st4, rfl, ?_, rs' ++ [none], by simp [enc], by simp [hl'], g4.mono (by simp; omega)⟩
      simp [e4', hs]
    · obtain ⟨b, st5, e5, hb, g5⟩ := v_draw (by omega) g4 (n := 2) (by omega) (by omega)
      have e5' : m__law_draw [loc 0, .int 2] st4 = .ok (.int b) st5 := e5
      refine ⟨st', .int b, st5, rfl, ?_, rs' ++ [some (b == 1)], ?_, by simp [hl'], g5.mono (by simp; omega)⟩
      · simp [e4', e5', hs]
      · have : b = 0 ∨ b = 1 := by omega
        rcases this with rfl | rfl <;> simp [enc]
/-! ### drawn things -/
/-- what stands in a drawn thing -/
def El (x : PyData) : Prop := (∃ i, x = .int i) ∨ (∃ b, x = .bool b) ∨ isaD "int" x = some (.bool false)
/-- a drawn thing -/
def Th (d : PyData) : Prop := isaD "tuple" d = some (.bool false) ∨ ∃ xs, d = .tuple xs ∧ xs.length ≤ 1000 ∧ ∀ x ∈ xs, El x
structure Nice (d : PyData) : Prop where
  th : Th d
  rq : reprQ [d] = some (.str d.shown)
structure OddOk (o : PyData) : Prop where
  el : El o
  ok : okEl o = true
  q : okQ o = true ∨ (o.plain = true ∧ o.hasDict = false)
theorem odd_int {i : Int} (h : i.natAbs < 100000) : OddOk (.int i) := ⟨.inl ⟨i, rfl⟩, okEl_int h, .inl rfl⟩
theorem odds_nice {xs : List PyData} (h : ∀ x ∈ xs, OddOk x) (hq : (∀ x ∈ xs, okQ x = true) ∨ ∀ x ∈ xs, x.plain = true ∧ x.hasDict = false) (hl : xs.length ≤ 100) : Nice (.tuple xs) :=
  ⟨.inr ⟨xs, rfl, by omega, fun x hx => (h x hx).el⟩, rq_tup (fun x hx => (h x hx).ok) hl hq⟩
theorem odd_nice {o : PyData} (h : OddOk o) {xs ys : List PyData} (hx : ∀ x ∈ xs, ∃ i : Int, x = .int i ∧ i.natAbs < 100000) (hy : ∀ x ∈ ys, ∃ i : Int, x = .int i ∧ i.natAbs < 100000) (hl : xs.length + ys.length ≤ 90) : Nice (.tuple (xs ++ o :: ys)) := by
  have all : ∀ x ∈ xs ++ o :: ys, x = o ∨ ∃ i : Int, x = .int i ∧ i.natAbs < 100000 := fun x hm => by
    rcases List.mem_append.mp hm with hm | hm
    · exact .inr (hx x hm)
    · rcases List.mem_cons.mp hm with hm | hm
      · exact .inl hm
      · exact .inr (hy x hm)
  refine odds_nice (fun x hm => ?_) ?_ (by simp; omega)
  · rcases all x hm with rfl | ⟨i, rfl, hi⟩
    · exact h
    · exact odd_int hi
  · rcases h.q with q | q
    · refine .inl fun x hm => ?_
      rcases all x hm with rfl | ⟨i, rfl, hi⟩
      · exact q
      · rfl
    · refine .inr fun x hm => ?_
      rcases all x hm with rfl | ⟨i, rfl, hi⟩
      · exact q
      · exact ⟨rfl, rfl⟩
theorem ints_nice {xs : List PyData} (hx : ∀ x ∈ xs, ∃ i : Int, x = .int i ∧ i.natAbs < 100000) (hl : xs.length ≤ 90) : Nice (.tuple xs) :=
  odds_nice (fun x hm => by obtain ⟨i, rfl, hi⟩ := hx x hm; exact odd_int hi) (.inl fun x hm => by obtain ⟨i, rfl, hi⟩ := hx x hm; rfl) (by omega)
theorem atom_nice {d : PyData} (h : isaD "tuple" d = some (.bool false)) (q : okShQ d = true) : Nice d := ⟨.inl h, by
  show (if okShQ d = true ∨ okShow d = true then some (PyData.str d.shown) else none) = _
  exact if_pos (.inl q)⟩
theorem noLs_ints {xs : List PyData} (h : ∀ x ∈ xs, ∃ i : Int, x = .int i ∧ i.natAbs < 100000) : noLs xs = true := by
  show xs.all noL = true
  rw [List.all_eq_true]
  intro x hx
  obtain ⟨i, rfl, _⟩ := h x hx
  rfl
/-! ### upsets: the walk's values -/
theorem v_losses_to (t : Nat) {gs : List (Nat × Nat)} {rs : List (Option Bool)} (h : gs.length = rs.length) (hl : gs.length ≤ 1000) (x : Nat) (S : List Nat) (st : Store) : m_losses_to [lea t (tE gs), tE rs, .int x, tE S] st = .ok (.int (loss (won gs rs) x S : Nat)) st := by
  have hd := dec_len rs
  have e2 := v_decided_of rs st (by omega)
  obtain ⟨Dc, hDc⟩ : ∃ D, D = dec rs := ⟨_, rfl⟩
  obtain ⟨A, hA⟩ : ∃ A, A = (Dc.filter fun i => (wlAt gs rs i).1 == x).map fun i => (wlAt gs rs i).2 := ⟨_, rfl⟩
  have Al : A.length ≤ 1000 := by
    rw [hA, List.length_map]
    have := List.length_filter_le (fun i => (wlAt gs rs i).1 == x) Dc
    rw [hDc] at *
    omega
  have c1 : ∀ s5 s6 s7, c1_losses_to [some (lea t (tE gs), false), some (tE rs, false), some (.int x, false), some (tE S, false), some (lE Dc, true), s5, s6, s7] st = .ok (lE A) st := fun s5 s6 s7 => by
    refine (lc_t Dc enc (fun i => (wlAt gs rs i).1 == x) (fun i => enc (wlAt gs rs i).2) (by simp) (fun z hz => ⟨_, rfl, ?_, fun _ => ?_⟩) (by rw [hDc, sizeL]; omega)).trans (by rw [hA, lE, List.map_map]; rfl)
    · have w := v_winner_of t h (hDc ▸ hz) st
      simp [w, beq_cast]
    · have w := v_loser_of t h (hDc ▸ hz) st
      simp [w]
  have c2 : ∀ s6 s7, c2_losses_to [some (lea t (tE gs), false), some (tE rs, false), some (.int x, false), some (tE S, false), some (lE Dc, true), some (lE A, true), s6, s7] st = .ok (lE (A.filter fun o => S.contains o)) st := fun s6 s7 => by
    refine lc_t A enc (fun o => S.contains o) enc (by simp) (fun z hz => ⟨_, rfl, ?_, fun _ => ?_⟩) (by rw [sizeL]; omega)
    · have := isInT z S
      simp only [enc_nat] at this
      simp [this, -List.contains_eq_mem]
    · simp
  have n : (A.filter fun o => S.contains o).length = loss (won gs rs) x S := by
    unfold loss
    rw [← dec_map h, hA, hDc, List.filter_map, List.length_map, List.filter_filter, List.countP_map, List.countP_eq_length_filter]
    congr 2
    funext i
    simp [Bool.and_comm]
  rw [← hDc] at e2
  generalize A.filter (fun o => S.contains o) = A2 at c2 n
  simp only [lE_eq, tE_eq] at e2 c1 c2
  simp [m_losses_to, e2, c1, c2, n, -List.map_map]
theorem v_row_of (xs : List Nat) (h : xs.length < 64) (st : Store) : m_row_of [tE xs] st = .ok (tE (xs.eraseDups.mergeSort leZ)) st := by
  have := sortSet_natsT xs h
  simp [m_row_of, this]
theorem add_one (row : List Nat) (x : Nat) (h : row.length ≤ 100) : addD (.tuple (row.map enc)) (.tuple [.int x]) = some (.tuple ((row ++ [x]).map enc)) := by
  rw [addD_tt (by simp; omega), List.map_append]
  rfl
theorem v_bo1 (t : Nat) {gs : List (Nat × Nat)} {rs : List (Option Bool)} (h : gs.length = rs.length) (hl : gs.length ≤ 1000) {row : List Nat} {x : Nat} {b : Vo} {ks : Ks} (hb : ks.lookup row = some b) (hr : row.length ≤ 30) (ho : b.2.length ≤ 30) (hk : ks.length ≤ 1000000) (z3 : PyData) (s6 s7 s8 s9 s10 : Ev.Slot) (st : Store) :
    ∃ t7 t8 t9 t10, b1_best_orders [some (lea t (tE gs), false), some (tE rs, false), some (rdict (dicR ks), true), some (z3, false), some (tE row, false), some (.int x, false), s6, s7, s8, s9, s10] st
      = .nx [some (lea t (tE gs), false), some (tE rs, false), some (rdict (dicR (if (!(ks.lookup (insS x row)).isSome || (match ks.lookup (insS x row) with | some w => EncO.lt (tld (won gs rs) b x row) w | none => false)) = true then dputR ks (insS x row) (tld (won gs rs) b x row) else ks)), true), some (z3, false), some (tE row, false), some (.int x, false), s6, t7, t8, t9, t10] st := by
  have d1 := dix_r ks row
  rw [hb] at d1
  have d1' : dixD (rdict (dicR ks)) (.tuple (row.map enc)) = some (.tuple [.int b.1, .tuple (b.2.map enc)]) := d1
  have l1 := v_losses_to t h hl x row st
  have a1 := add_one b.2 x (by omega)
  have a2 := add_one row x (by omega)
  have r1 := v_row_of (row ++ [x]) (by simp; omega) st
  have ei : (row ++ [x]).eraseDups.mergeSort leZ = insS x row := rfl
  rw [ei] at r1
  obtain ⟨r, er⟩ : ∃ r, r = insS x row := ⟨_, rfl⟩
  rw [← er] at r1 ⊢
  have ev : PyData.tuple [.int ((b.1 : Int) + (loss (won gs rs) x row : Nat)), .tuple ((b.2 ++ [x]).map enc)] = enc (tld (won gs rs) b x row) := by
    have : enc (tld (won gs rs) b x row) = PyData.tuple [.int ((b.1 + loss (won gs rs) x row : Nat) : Int), .tuple ((b.2 ++ [x]).map enc)] := rfl
    rw [this]
    congr 3
  obtain ⟨v, hv⟩ : ∃ v, v = tld (won gs rs) b x row := ⟨_, rfl⟩
  rw [← hv] at ev ⊢
  have d2 := dnotIn_r ks r
  have d3 := dix_r ks r
  have p1 := dput_r ks r v
  have ro := rowOf_nats r
  simp only [tE_eq] at l1 r1 d2 d3 ro
  have nv : noL (enc v) = true := Enc.noL v
  have kl : (dicR ks).length < 16777216 := by rw [dicR, List.length_map]; omega
  generalize (row ++ [x]).map enc = Z1 at a2 r1
  generalize (b.2 ++ [x]).map enc = Z2 at a1 ev
  have nl2 : noL (.tuple [.int ((b.1 : Int) + (loss (won gs rs) x row : Nat)), .tuple Z2]) = true := by rw [ev]; exact nv
  cases hk2 : ks.lookup r with
  | none =>
    rw [hk2] at d2 d3
    simp [b1_best_orders, d1', l1, a1, a2, r1, d2, ro, ev, p1, nv, kl]
  | some w =>
    rw [hk2] at d2 d3
    have lt1 := ltB_pr v w
    cases hc : EncO.lt v w <;> rw [hc] at lt1 <;> simp [b1_best_orders, d1', l1, a1, a2, r1, d2, d3, ro, ev, p1, nv, kl, lt1, hc]
theorem ite_len {α : Type} (c : Bool) (a b : List α) (N : Nat) (h1 : a.length ≤ N) (h2 : b.length ≤ N) : (if c = true then a else b).length ≤ N := by
  cases c
  · exact h2
  · exact h1
theorem v_bo2 (t : Nat) {gs : List (Nat × Nat)} {rs : List (Option Bool)} (h : gs.length = rs.length) (hl : gs.length ≤ 1000) (t30 : t ≤ 8) {k : Nat} {row : List Nat} (hr : isRowN t row) (hk : row.length = k) {D : List Nat → Nat → Prop} {ks : Ks} (Q : Qt t (won gs rs) k D ks) (hlen : ks.length ≤ 900000) (z3 : PyData) (s6 s7 s8 s9 s10 s5 : Ev.Slot) (st : Store) :
    ∃ ks' t5 t6 t7 t8 t9 t10, forGo (gN 5) b1_best_orders (((List.range t).filter fun x => !row.contains x).map enc) [some (lea t (tE gs), false), some (tE rs, false), some (rdict (dicR ks), true), some (z3, false), some (tE row, false), s5, s6, s7, s8, s9, s10] st
      = .nx [some (lea t (tE gs), false), some (tE rs, false), some (rdict (dicR ks'), true), some (z3, false), some (tE row, false), t5, t6, t7, t8, t9, t10] st ∧ Qt t (won gs rs) k (fun a c => D a c ∨ (a = row ∧ c < t ∧ c ∉ row)) ks' ∧ ks'.length ≤ ks.length + 8 := by
  obtain ⟨T, hT⟩ : ∃ T, T = (List.range t).filter fun x => !row.contains x := ⟨_, rfl⟩
  have mT : ∀ c, c ∈ T ↔ c < t ∧ c ∉ row := fun c => by rw [hT, List.mem_filter, List.mem_range]; simp
  have lT : T.length ≤ 8 := by rw [hT]; exact Nat.le_trans (List.length_filter_le _ _) (by simp; omega)
  rw [← hT]
  have rl : row.length ≤ 8 := by
    have := nodup_len t (row_nodup hr) hr.2
    omega
  obtain ⟨b, _, hb⟩ := Q.done row hr (by omega)
  refine for_t (R := fun r => ∃ ks' t5 t6 t7 t8 t9 t10, r = .nx [some (lea t (tE gs), false), some (tE rs, false), some (rdict (dicR ks'), true), some (z3, false), some (tE row, false), t5, t6, t7, t8, t9, t10] st ∧ Qt t (won gs rs) k (fun a c => D a c ∨ (a = row ∧ c < t ∧ c ∉ row)) ks' ∧ ks'.length ≤ ks.length + 8) enc
    (fun done ρ st' => st' = st ∧ ∃ ks' t5 t6 t7 t8 t9 t10, ρ = [some (lea t (tE gs), false), some (tE rs, false), some (rdict (dicR ks'), true), some (z3, false), some (tE row, false), t5, t6, t7, t8, t9, t10] ∧ Qt t (won gs rs) k (fun a c => D a c ∨ (a = row ∧ c ∈ done)) ks' ∧ ks'.length ≤ ks.length + done.length)
    T ⟨rfl, ks, s5, s6, s7, s8, s9, s10, rfl, q_more Q fun a c => by simp, by simp⟩ ?_ ?_
  · rintro done x rest ρ st' ee ⟨rfl, ks', t5, t6, t7, t8, t9, t10, rfl, Q', hl'⟩
    have hx := (mT x).mp (by rw [ee]; simp)
    have dl : done.length ≤ 8 := by
      have := congrArg List.length ee
      simp at this
      omega
    obtain ⟨b', e1, hb'⟩ := Q'.done row hr (by omega)
    have bl : b'.2.length ≤ 30 := by rw [hb'.pm.length_eq]; omega
    obtain ⟨u7, u8, u9, u10, e⟩ := v_bo1 t h hl e1 (x := x) (by omega) bl (by omega) z3 t6 t7 t8 t9 t10 st'
    refine ⟨_, rfl, ?_⟩
    have qs := q_step Q' hr hk hx.1 hx.2 hb'
    show match b1_best_orders [some (lea t (tE gs), false), some (tE rs, false), some (rdict (dicR ks'), true), some (z3, false), some (tE row, false), some (.int x, false), t6, t7, t8, t9, t10] st' with
      | .nx ρ2 st2 => _
      | .ct ρ2 st2 => _
      | .brk ρ2 st2 => _
      | r => _
    rw [e]
    refine ⟨rfl, _, _, _, _, _, _, _, rfl, q_more qs fun a c => ?_, ?_⟩
    · rw [List.mem_append, List.mem_singleton]
      constructor
      · rintro ((h | ⟨h1, h2⟩) | ⟨h1, h2⟩)
        · exact .inl h
        · exact .inr ⟨h1, .inl h2⟩
        · exact .inr ⟨h1, .inr h2⟩
      · rintro (h | ⟨h1, h2 | h2⟩)
        · exact .inl (.inl h)
        · exact .inl (.inr ⟨h1, h2⟩)
        · exact .inr ⟨h1, h2⟩
    · rw [List.length_append, List.length_singleton]
      have := dputR_len ks' (insS x row) (tld (won gs rs) b' x row)
      exact ite_len _ _ _ _ (by omega) (by omega)
  · rintro ρ st' ⟨rfl, ks', t5, t6, t7, t8, t9, t10, rfl, Q', hl'⟩
    exact ⟨ks', t5, t6, t7, t8, t9, t10, rfl, q_more Q' fun a c => by rw [mT], by omega⟩
theorem v_bo3 (t : Nat) {gs : List (Nat × Nat)} {rs : List (Option Bool)} (h : gs.length = rs.length) (hl : gs.length ≤ 1000) (t30 : t ≤ 8) {k : Nat} {ks0 : Ks} (Q0 : Qt t (won gs rs) k (fun _ _ => False) ks0) (hlen : ks0.length ≤ 90000) (R : List (List Nat)) (hR : ∀ r ∈ R, isRowN t r ∧ r.length = k) (hRl : R.length ≤ 90000) (z3 : PyData) (s4 s5 s6 s7 s8 s9 s10 : Ev.Slot) (st : Store) :
    ∃ ks' t4 t5 t6 t7 t8 t9 t10, forGo (gN 4) b2_best_orders (R.map enc) [some (lea t (tE gs), false), some (tE rs, false), some (rdict (dicR ks0), true), some (z3, false), s4, s5, s6, s7, s8, s9, s10] st
      = .nx [some (lea t (tE gs), false), some (tE rs, false), some (rdict (dicR ks'), true), some (z3, false), t4, t5, t6, t7, t8, t9, t10] st ∧ Qt t (won gs rs) k (fun a c => a ∈ R ∧ c < t ∧ c ∉ a) ks' ∧ ks'.length ≤ ks0.length + 8 * R.length := by
  refine for_t (R := fun r => ∃ ks' t4 t5 t6 t7 t8 t9 t10, r = .nx [some (lea t (tE gs), false), some (tE rs, false), some (rdict (dicR ks'), true), some (z3, false), t4, t5, t6, t7, t8, t9, t10] st ∧ Qt t (won gs rs) k (fun a c => a ∈ R ∧ c < t ∧ c ∉ a) ks' ∧ ks'.length ≤ ks0.length + 8 * R.length) enc
    (fun done ρ st' => st' = st ∧ ∃ ks' t4 t5 t6 t7 t8 t9 t10, ρ = [some (lea t (tE gs), false), some (tE rs, false), some (rdict (dicR ks'), true), some (z3, false), t4, t5, t6, t7, t8, t9, t10] ∧ Qt t (won gs rs) k (fun a c => a ∈ done ∧ c < t ∧ c ∉ a) ks' ∧ ks'.length ≤ ks0.length + 8 * done.length)
    R ⟨rfl, ks0, s4, s5, s6, s7, s8, s9, s10, rfl, q_more Q0 fun a c => by simp, by simp⟩ ?_ ?_
  · rintro done row rest ρ st' ee ⟨rfl, ks', t4, t5, t6, t7, t8, t9, t10, rfl, Q', hl'⟩
    have hx := hR row (by rw [ee]; simp)
    have dl : done.length < R.length := by
      have := congrArg List.length ee
      simp at this
      omega
    refine ⟨_, rfl, ?_⟩
    obtain ⟨ks2, u5, u6, u7, u8, u9, u10, e, Q2, l2⟩ := v_bo2 t h hl t30 hx.1 hx.2 Q' (by omega) z3 t6 t7 t8 t9 t10 t5 st'
    have ev := v_everybody t (tE gs) st' (by omega)
    have c2 : ∀ s5 s6 s7 s8 s9 s10, c2_best_orders [some (lea t (tE gs), false), some (tE rs, false), some (rdict (dicR ks'), true), some (z3, false), some (tE row, false), s5, s6, s7, s8, s9, s10] st' = .ok (lE ((List.range t).filter fun x => !row.contains x)) st' := fun s5 s6 s7 s8 s9 s10 => by
      refine lc_t (List.range t) enc (fun x => !row.contains x) enc ?_ (fun z hz => ⟨_, rfl, ?_, fun _ => ?_⟩) (by simp; omega)
      · simp [ev]
      · have := notInT z row
        simp only [enc_nat] at this
        simp [this, -List.contains_eq_mem]
      · simp
    have nl : noLs (((List.range t).filter fun x => !row.contains x).map enc) = true := noLs_map _
    simp only [tE_eq, lE_eq] at c2 e
    generalize ((List.range t).filter fun x => !row.contains x).map enc = Z at c2 e nl
    have e2 : b2_best_orders [some (lea t (tE gs), false), some (tE rs, false), some (rdict (dicR ks'), true), some (z3, false), some (tE row, false), t5, t6, t7, t8, t9, t10] st' = .nx [some (lea t (tE gs), false), some (tE rs, false), some (rdict (dicR ks2), true), some (z3, false), some (tE row, false), u5, u6, u7, u8, u9, u10] st' := by
      simp [b2_best_orders, c2, e, nl]
    show match b2_best_orders [some (lea t (tE gs), false), some (tE rs, false), some (rdict (dicR ks'), true), some (z3, false), some (tE row, false), t5, t6, t7, t8, t9, t10] st' with
      | .nx ρ2 st2 => _
      | .ct ρ2 st2 => _
      | .brk ρ2 st2 => _
      | r => _
    rw [e2]
    refine ⟨rfl, ks2, _, _, _, _, _, _, _, rfl, q_more Q2 fun a c => ?_, ?_⟩
    · rw [List.mem_append, List.mem_singleton]
      constructor
      · rintro (⟨h1, h2⟩ | ⟨rfl, h2⟩)
        · exact ⟨.inl h1, h2⟩
        · exact ⟨.inr rfl, h2⟩
      · rintro ⟨h1 | rfl, h2⟩
        · exact .inl ⟨h1, h2⟩
        · exact .inr ⟨rfl, h2⟩
    · rw [List.length_append, List.length_singleton]
      omega
  · rintro ρ st' ⟨rfl, ks', t4, t5, t6, t7, t8, t9, t10, rfl, Q', hl'⟩
    exact ⟨ks', t4, t5, t6, t7, t8, t9, t10, rfl, Q', hl'⟩
theorem v_best_orders (t : Nat) {gs : List (Nat × Nat)} {rs : List (Option Bool)} (h : gs.length = rs.length) (hl : gs.length ≤ 1000) (t5 : t ≤ 5) (st : Store) : ∃ (ks : Ks) (v : Vo), m_best_orders [lea t (tE gs), tE rs] st = .ok (rdict (dicR ks)) st ∧ ks.lookup (List.range t) = some v ∧ Bst (won gs rs) (List.range t) v := by
  have loop : ∃ ks' t3 t4 t5 t6 t7 t8 t9 t10, forGo (gN 3) b3_best_orders ((List.range t).map enc) [some (lea t (tE gs), false), some (tE rs, false), some (rdict (dicR [([], ((0, []) : Vo))]), true), none, none, none, none, none, none, none, none] st
      = .nx [some (lea t (tE gs), false), some (tE rs, false), some (rdict (dicR ks'), true), t3, t4, t5, t6, t7, t8, t9, t10] st ∧ Qt t (won gs rs) t (fun _ _ => False) ks' := by
    refine for_t (R := fun r => ∃ ks' t3 t4 t5 t6 t7 t8 t9 t10, r = .nx [some (lea t (tE gs), false), some (tE rs, false), some (rdict (dicR ks'), true), t3, t4, t5, t6, t7, t8, t9, t10] st ∧ Qt t (won gs rs) t (fun _ _ => False) ks') enc
      (fun done ρ st' => st' = st ∧ ∃ ks' t3 t4 t5 t6 t7 t8 t9 t10, ρ = [some (lea t (tE gs), false), some (tE rs, false), some (rdict (dicR ks'), true), t3, t4, t5, t6, t7, t8, t9, t10] ∧ Qt t (won gs rs) done.length (fun _ _ => False) ks' ∧ ks'.length ≤ 9 ^ done.length)
      (List.range t) ⟨rfl, _, none, none, none, none, none, none, none, none, rfl, q_start t _, by simp⟩ ?_ ?_
    · rintro done x rest ρ st' ee ⟨rfl, ks', t3, t4, t5, t6, t7, t8, t9, t10, rfl, Q', hl'⟩
      have hx : x = done.length := by
        have := congrArg (fun l => l[done.length]?) ee
        simp only [List.getElem?_append_right (Nat.le_refl _), Nat.sub_self, List.getElem?_cons_zero] at this
        have hlt : done.length < t := by
          have := congrArg List.length ee
          simp at this
          omega
        rw [List.getElem?_range hlt] at this
        exact (Option.some.inj this).symm
      have dl : done.length ≤ 4 := by
        have := congrArg List.length ee
        simp at this
        omega
      have p9 : 9 ^ done.length ≤ 9 ^ 4 := Nat.pow_le_pow_right (by omega) dl
      have p94 : 9 ^ 4 = 6561 := rfl
      refine ⟨_, rfl, ?_⟩
      obtain ⟨Rw, hRw⟩ : ∃ R, R = (ks'.filter fun p => p.1.length == x).map (·.1) := ⟨_, rfl⟩
      have Rl : Rw.length ≤ ks'.length := by rw [hRw, List.length_map]; exact List.length_filter_le _ _
      have mR : ∀ r, r ∈ Rw ↔ r ∈ ks'.map (·.1) ∧ r.length = x := fun r => by
        rw [hRw, List.mem_map, List.mem_map]
        constructor
        · rintro ⟨p, hp, rfl⟩
          rw [List.mem_filter, beq_iff_eq] at hp
          exact ⟨⟨p, hp.1, rfl⟩, hp.2⟩
        · rintro ⟨⟨p, hp, rfl⟩, hx⟩
          exact ⟨p, List.mem_filter.mpr ⟨hp, by simpa using hx⟩, rfl⟩
      have hR : ∀ r ∈ Rw, isRowN t r ∧ r.length = done.length := fun r hr => by
        obtain ⟨h1, h2⟩ := (mR r).mp hr
        obtain ⟨p, hp, rfl⟩ := List.mem_map.mp h1
        exact ⟨(Q'.key p hp).1, by rw [h2, hx]⟩
      obtain ⟨ks2, u4, u5, u6, u7, u8, u9, u10, e, Q2, l2⟩ := v_bo3 t h hl (by omega) Q' (by omega) Rw hR (by omega) (.int x) t4 t5 t6 t7 t8 t9 t10 st'
      have c1 : ∀ s4 s5 s6 s7 s8 s9 s10, c1_best_orders [some (lea t (tE gs), false), some (tE rs, false), some (rdict (dicR ks'), true), some (.int x, false), s4, s5, s6, s7, s8, s9, s10] st' = .ok (lE Rw) st' := fun s4 s5 s6 s7 s8 s9 s10 => by
        refine (lc_t ks' (fun p => tE p.1) (fun p => p.1.length == x) (fun p => tE p.1) ?_ (fun z hz => ⟨_, rfl, ?_, fun _ => ?_⟩) (by rw [sizeL]; omega)).trans (by rw [hRw, lE, List.map_map]; rfl)
        · simp
        · simp [beq_cast]
        · simp
      have nl : noLs (Rw.map enc) = true := noLs_map _
      simp only [tE_eq, lE_eq] at c1 e
      generalize Rw.map enc = Z at c1 e nl
      have e2 : b3_best_orders [some (lea t (tE gs), false), some (tE rs, false), some (rdict (dicR ks'), true), some (.int x, false), t4, t5, t6, t7, t8, t9, t10] st' = .nx [some (lea t (tE gs), false), some (tE rs, false), some (rdict (dicR ks2), true), some (.int x, false), u4, u5, u6, u7, u8, u9, u10] st' := by
        simp [b3_best_orders, c1, e, nl]
      show match b3_best_orders [some (lea t (tE gs), false), some (tE rs, false), some (rdict (dicR ks'), true), some (.int x, false), t4, t5, t6, t7, t8, t9, t10] st' with
        | .nx ρ2 st2 => _
        | .ct ρ2 st2 => _
        | .brk ρ2 st2 => _
        | r => _
      rw [e2]
      have Q3 := q_turn Q2 fun row c r1 r2 r3 r4 => by
        obtain ⟨v, hv, _⟩ := Q'.done row r1 (by omega)
        exact ⟨(mR row).mpr ⟨List.mem_map.mpr ⟨_, look_mem hv, rfl⟩, by rw [r2, hx]⟩, r3, r4⟩
      refine ⟨rfl, ks2, _, _, _, _, _, _, _, _, rfl, by rw [List.length_append, List.length_singleton]; exact Q3, ?_⟩
      rw [List.length_append, List.length_singleton, Nat.pow_succ]
      omega
    · rintro ρ st' ⟨rfl, ks', t3, t4, t5, t6, t7, t8, t9, t10, rfl, Q', hl'⟩
      rw [List.length_range] at Q'
      exact ⟨ks', t3, t4, t5, t6, t7, t8, t9, t10, rfl, Q'⟩
  obtain ⟨ks', t3, t4, t5', t6, t7, t8, t9, t10, e, Q⟩ := loop
  have rr : isRowN t (List.range t) := ⟨List.pairwise_lt_range, fun x hx => List.mem_range.mp hx⟩
  obtain ⟨v, hv, hb⟩ := Q.done (List.range t) rr (by simp)
  refine ⟨ks', v, ?_, hv, hb⟩
  have ev := v_everybody t (tE gs) st (by omega)
  have r0 : rowOf (.tuple []) = some [] := rfl
  have e0 : rdict [(PyData.tuple [], PyData.tuple [.int 0, .tuple []])] = rdict (dicR [([], ((0, []) : Vo))]) := rfl
  simp only [tE_eq] at ev e
  have nl : noLs ((List.range t).map enc) = true := noLs_map _
  generalize (List.range t).map enc = Z at ev e nl
  simp [m_best_orders, r0, e0, ev, e, nl]
theorem v_best_of (t : Nat) {gs : List (Nat × Nat)} {rs : List (Option Bool)} (h : gs.length = rs.length) (hl : gs.length ≤ 1000) (t5 : t ≤ 5) (st : Store) : ∃ (v : Vo), m_best_of [lea t (tE gs), tE rs] st = .ok (.tuple [.int v.1, tE v.2]) st ∧ Bst (won gs rs) (List.range t) v := by
  obtain ⟨ks, v, e, hv, hb⟩ := v_best_orders t h hl t5 st
  refine ⟨v, ?_, hb⟩
  have ev := v_everybody t (tE gs) st (by omega)
  have d1 := dix_r ks (List.range t)
  rw [hv] at d1
  have d1' : dixD (rdict (dicR ks)) (tE (List.range t)) = some (.tuple [.int v.1, tE v.2]) := d1
  simp only [tE_eq] at ev d1' e
  generalize (List.range t).map enc = Z at ev d1'
  simp [m_best_of, e, ev, d1']
theorem v_fewest_upsets (t : Nat) {gs : List (Nat × Nat)} {rs : List (Option Bool)} (h : gs.length = rs.length) (hl : gs.length ≤ 1000) (t5 : t ≤ 5) {v : Vo} (hb : Bst (won gs rs) (List.range t) v) (st : Store) : m_fewest_upsets [lea t (tE gs), tE rs] st = .ok (.int v.1) st := by
  obtain ⟨v', e, hb'⟩ := v_best_of t h hl t5 st
  have := bst_uniq hb hb'
  subst this
  have c := v_check_results (t : Int) gs rs st h hl
  simp only [tE_eq] at e c
  simp [m_fewest_upsets, c, e]
theorem v_best_order (t : Nat) {gs : List (Nat × Nat)} {rs : List (Option Bool)} (h : gs.length = rs.length) (hl : gs.length ≤ 1000) (t5 : t ≤ 5) {v : Vo} (hb : Bst (won gs rs) (List.range t) v) (st : Store) : m_best_order [lea t (tE gs), tE rs] st = .ok (tE v.2) st := by
  obtain ⟨v', e, hb'⟩ := v_best_of t h hl t5 st
  have := bst_uniq hb hb'
  subst this
  have c := v_check_results (t : Int) gs rs st h hl
  simp only [tE_eq] at e c
  simp [m_best_order, c, e]
def upr (gs : List (Nat × Nat)) (rs : List (Option Bool)) (line : List Nat) (i : Nat) : Bool := decide (line.idxOf (wlAt gs rs i).2 < line.idxOf (wlAt gs rs i).1)
def upL (gs : List (Nat × Nat)) (rs : List (Option Bool)) (line : List Nat) : List Nat := (dec rs).filter (upr gs rs line)
theorem wl_lt {t : Nat} {gs : List (Nat × Nat)} {rs : List (Option Bool)} (go : gsOk t gs) (h : gs.length = rs.length) {i : Nat} (hi : i ∈ dec rs) : (wlAt gs rs i).1 < t ∧ (wlAt gs rs i).2 < t := by
  obtain ⟨p, b, h1, h2, h3⟩ := dec_mem h hi
  have := go p (List.mem_of_getElem? h1)
  rw [h3]
  unfold wl
  cases b <;> simp <;> omega
theorem perm_mem {t : Nat} {line : List Nat} (h : line.Perm (List.range t)) {x : Nat} (hx : x < t) : x ∈ line := h.mem_iff.mpr (List.mem_range.mpr hx)
theorem v_upsets_of (t : Nat) {gs : List (Nat × Nat)} {rs : List (Option Bool)} (go : gsOk t gs) (h : gs.length = rs.length) (hl : gs.length ≤ 1000) {line : List Nat} (hp : line.Perm (List.range t)) (st : Store) : m_upsets_of [lea t (tE gs), tE rs, tE line] st = .ok (lE (upL gs rs line)) st := by
  have hd := dec_len rs
  have e2 := v_decided_of rs st (by omega)
  have loop : ∃ s4, forGo (gN 4) b1_upsets_of ((dec rs).map enc) [some (lea t (tE gs), false), some (tE rs, false), some (tE line, false), some (lE ([] : List Nat), true), none] st = .nx [some (lea t (tE gs), false), some (tE rs, false), some (tE line, false), some (lE (upL gs rs line), true), s4] st := by
    refine for_t (R := fun r => ∃ s4, r = .nx [some (lea t (tE gs), false), some (tE rs, false), some (tE line, false), some (lE (upL gs rs line), true), s4] st) enc
      (fun done ρ st' => st' = st ∧ ∃ s4, ρ = [some (lea t (tE gs), false), some (tE rs, false), some (tE line, false), some (lE (done.filter (upr gs rs line)), true), s4])
      (dec rs) ⟨rfl, none, rfl⟩ ?_ ?_
    · rintro done x rest ρ st' ee ⟨rfl, s4, rfl⟩
      have hx : x ∈ dec rs := by rw [ee]; simp
      have w1 := v_winner_of t h hx st'
      have w2 := v_loser_of t h hx st'
      obtain ⟨q1, q2⟩ := wl_lt go h hx
      have i1 := indexL_enc (perm_mem hp q1)
      have i2 := indexL_enc (perm_mem hp q2)
      refine ⟨_, rfl, ?_⟩
      have fl : (done.filter (upr gs rs line)).length < 100000 := by
        have := List.length_filter_le (upr gs rs line) done
        have := congrArg List.length ee
        simp only [List.length_append, List.length_cons] at this
        omega
      have eu : upr gs rs line x = decide ((line.idxOf (wlAt gs rs x).2 : Int) < (line.idxOf (wlAt gs rs x).1 : Int)) := by
        unfold upr
        rw [Bool.eq_iff_iff, decide_eq_true_eq, decide_eq_true_eq]
        omega
      rw [List.filter_append, List.filter_cons, List.filter_nil, eu]
      obtain ⟨A, hA⟩ : ∃ A, A = done.filter (upr gs rs line) := ⟨_, rfl⟩
      rw [← hA] at fl ⊢
      generalize wlAt gs rs x = W at w1 w2 i1 i2
      simp only [enc_nat] at i1 i2
      generalize line.idxOf W.1 = I1 at i1
      generalize line.idxOf W.2 = I2 at i2
      by_cases hc : (I2 : Int) < (I1 : Int) <;> simp [b1_upsets_of, w1, w2, i1, i2, hc, show A.length < 16777216 by omega]
    · rintro ρ st' ⟨rfl, s4, rfl⟩
      exact ⟨s4, rfl⟩
  obtain ⟨s4, e⟩ := loop
  have nl : noLs ((dec rs).map enc) = true := noLs_map _
  simp only [lE_eq, tE_eq] at e2 e
  generalize (dec rs).map enc = Z at e2 e nl
  simp at e
  simp [m_upsets_of, e2, e, nl]

end Row
end

section
set_option maxRecDepth 100000
set_option maxHeartbeats 400000
namespace Row
open PySem PySem.Spec PyProof.Rows L2 Ev
open Enc (enc)
/-! ### orders judged -/
def withinB (lo hi : Int) : PyData → Bool
  | .int i => decide (lo ≤ i) && decide (i ≤ hi)
  | _ => false
theorem within_no {lo hi : Int} {x : PyData} (h : isaD "int" x = some (.bool false)) : withinB lo hi x = false := by
  cases x with
  | int i => cases h
  | _ => rfl
theorem v_within_g {x : PyData} (h : El x) (lo hi : Int) (st : Store) : m_is_within [x, .int lo, .int hi] st = .ok (.bool (withinB lo hi x)) st := by
  rcases h with ⟨i, rfl⟩ | ⟨b, rfl⟩ | h
  · rw [v_is_within]
    rfl
  · simp [m_is_within, m_is_integer, withinB]
  · simp [m_is_within, m_is_integer, h, within_no h]
theorem v_are_below_g {xs : List PyData} (h : ∀ x ∈ xs, El x) (hl : xs.length ≤ 1000) (many : Int) (st : Store) : m_are_below [.tuple xs, .int many] st = .ok (.bool (xs.all (withinB 0 (many - 1)))) st := by
  have e : c1_are_below [some (.tuple xs, false), some (.int many, false), none] st = .ok (.list (xs.map fun x => .bool (withinB 0 (many - 1) x))) st := by
    refine lc_a xs id _ (by simp) (fun x hx => ⟨_, rfl, ?_⟩) (by simp; omega)
    simp [v_within_g (h x hx)]
  simp [m_are_below, e, allD_m]
theorem v_are_below_no {d : PyData} (h : isaD "tuple" d = some (.bool false)) (many : Int) (st : Store) : m_are_below [d, .int many] st = .ok (.bool false) st := by
  simp [m_are_below, h]
theorem dups_nodup : ∀ (n : Nat) (l : List Nat), l.length ≤ n → (l.eraseDups.length = l.length ↔ l.Nodup)
  | 0, l, h => by
    have : l = [] := List.eq_nil_of_length_eq_zero (by omega)
    subst this
    simp
  | n + 1, [], _ => by simp
  | n + 1, a :: l, h => by
    rw [List.eraseDups_cons, List.length_cons, List.length_cons, List.nodup_cons]
    have h1 := List.length_filter_le (fun b => !b == a) l
    have h2 := dups_len _ (l.filter fun b => !b == a) (Nat.le_refl _)
    have h3 : a ∉ l ↔ (l.filter fun b => !b == a).length = l.length := by
      rw [List.length_filter_eq_length_iff]
      constructor
      · intro k b hb
        have : b ≠ a := fun e => k (e ▸ hb)
        simpa using this
      · intro k ha
        have := k a ha
        simp at this
    constructor
    · intro k
      have e1 : (l.filter fun b => !b == a).length = l.length := by omega
      have na := h3.mpr e1
      have e2 : (l.filter fun b => !b == a) = l := List.filter_eq_self.mpr (List.length_filter_eq_length_iff.mp e1)
      rw [e2] at k
      exact ⟨na, (dups_nodup n l (by simpa using h)).mp (by omega)⟩
    · rintro ⟨na, nd⟩
      have e1 := h3.mp na
      have e2 : (l.filter fun b => !b == a) = l := List.filter_eq_self.mpr (List.length_filter_eq_length_iff.mp e1)
      rw [e2, (dups_nodup n l (by simpa using h)).mpr nd]
theorem lenSet_t (ns : List Nat) (h : ns.length < 64) : lenSetD (.tuple (ns.map enc)) = some (.int (ns.eraseDups.length : Nat)) := by
  have e : (ns.map enc) = (castR ns).map PyData.int := by
    unfold castR
    rw [List.map_map]
    rfl
  unfold lenSetD
  rw [seqOf_t, Option.bind_some, e, asInts_i]
  simp only []
  rw [if_pos (by unfold castR; simpa using h)]
  congr 3
  unfold castR
  rw [dups_map (fun (n : Nat) => (n : Int)) (fun a b h => by omega) _ ns (Nat.le_refl _), List.length_map]
theorem v_is_order_n (ns : List Nat) (n : Nat) (h : ns.length < 64) (st : Store) : m_is_order_of [tE ns, .int n] st = .ok (.bool ((ns.all fun x => decide (x < n)) && (decide ns.Nodup && decide (ns.length = n)))) st := by
  have e1 := v_are_below ns (n : Int) st (by omega)
  have e2 := lenSet_t ns h
  have e3 : ((ns.eraseDups.length : Int) == (ns.length : Int)) = decide ns.Nodup := by
    rw [Bool.eq_iff_iff, beq_iff_eq, decide_eq_true_eq, ← dups_nodup _ ns (Nat.le_refl _)]
    omega
  have e4 : ((ns.length : Int) == (n : Int)) = decide (ns.length = n) := by
    rw [Bool.eq_iff_iff, beq_iff_eq, decide_eq_true_eq]
    omega
  have e5 : (ns.all fun x => decide ((x : Int) < (n : Int))) = ns.all fun x => decide (x < n) := by
    congr 1
    funext x
    rw [Bool.eq_iff_iff, decide_eq_true_eq, decide_eq_true_eq]
    omega
  rw [e5] at e1
  simp only [tE_eq] at e1
  have u : m_are_unlike [.tuple (ns.map enc), .int n] st = .ok (.bool ((ns.all fun x => decide (x < n)) && decide ns.Nodup)) st := by
    cases q : ns.all fun x => decide (x < n) <;> rw [q] at e1 <;> simp [m_are_unlike, e1, e2, e3]
  cases q : ((ns.all fun x => decide (x < n)) && decide ns.Nodup) with
  | false =>
    rw [q] at u
    have : ((ns.all fun x => decide (x < n)) && (decide ns.Nodup && decide (ns.length = n))) = false := by
      rw [← Bool.and_assoc, q]; rfl
    rw [this]
    simp [m_is_order_of, u]
  | true =>
    rw [q] at u
    have : ((ns.all fun x => decide (x < n)) && (decide ns.Nodup && decide (ns.length = n))) = decide (ns.length = n) := by
      rw [← Bool.and_assoc, q]; rfl
    rw [this]
    simp [m_is_order_of, u, e4]
def OrdBad (n : Nat) (d : PyData) : Prop := isaD "tuple" d = some (.bool false) ∨ (∃ xs, d = .tuple xs ∧ xs.length ≤ 60 ∧ (∀ x ∈ xs, El x) ∧ ∃ x ∈ xs, withinB 0 ((n : Int) - 1) x = false) ∨ ∃ ns : List Nat, d = tE ns ∧ ns.length ≤ 60 ∧ (¬ ns.Nodup ∨ ns.length ≠ n)
theorem v_order_bad {n : Nat} {d : PyData} (h : OrdBad n d) (st : Store) : m_is_order_of [d, .int n] st = .ok (.bool false) st := by
  rcases h with h | ⟨xs, rfl, hl, he, x, hx, hw⟩ | ⟨ns, rfl, hl, h⟩
  · have e1 := v_are_below_no h (n : Int) st
    simp [m_is_order_of, m_are_unlike, e1]
  · have e1 := v_are_below_g he (by omega) (n : Int) st
    have : xs.all (withinB 0 ((n : Int) - 1)) = false := by
      rw [List.all_eq_false]
      exact ⟨x, hx, by rw [hw]; simp⟩
    rw [this] at e1
    simp [m_is_order_of, m_are_unlike, e1]
  · rw [v_is_order_n ns n (by omega) st]
    have : ((ns.all fun x => decide (x < n)) && (decide ns.Nodup && decide (ns.length = n))) = false := by
      rcases h with h | h <;> simp [h]
    rw [this]
theorem perm_ok {n : Nat} {line : List Nat} (h : line.Perm (List.range n)) : ((line.all fun x => decide (x < n)) && (decide line.Nodup && decide (line.length = n))) = true := by
  have h1 : (line.all fun x => decide (x < n)) = true := by
    rw [List.all_eq_true]
    intro x hx
    exact decide_eq_true (List.mem_range.mp (h.mem_iff.mp hx))
  have h2 : line.Nodup := h.nodup_iff.mpr List.nodup_range
  have h3 : line.length = n := by rw [h.length_eq, List.length_range]
  rw [h1, decide_eq_true h2, decide_eq_true h3]
  rfl
theorem v_order_ok {n : Nat} {line : List Nat} (h : line.Perm (List.range n)) (hn : n < 60) (st : Store) : m_is_order_of [tE line, .int n] st = .ok (.bool true) st := by
  rw [v_is_order_n line n (by rw [h.length_eq, List.length_range]; omega) st, perm_ok h]
theorem v_check_order {n : Nat} {g : PyData} {line : List Nat} (h : line.Perm (List.range n)) (hn : n < 60) (st : Store) : m_check_order [lea n g, tE line] st = .ok .none st := by
  have := v_order_ok h hn st
  simp only [tE_eq] at this
  simp [m_check_order, this]
theorem v_check_order_bad {n : Nat} {g d : PyData} (h : OrdBad n d) (st : Store) : m_check_order [lea n g, d] st = .exn ⟨xn_BadOrder, []⟩ st := by
  have := v_order_bad h st
  simp [m_check_order, this]
/-! ### all orders -/
def ordsK (n : Nat) : Nat → List (List Nat)
  | 0 => [[]]
  | k + 1 => (ordsK n k).flatMap fun line => ((List.range n).filter fun x => !line.contains x).map fun x => line ++ [x]
theorem ordsK_mem (n : Nat) : ∀ (k : Nat) (o : List Nat), o ∈ ordsK n k ↔ o.Nodup ∧ o.length = k ∧ ∀ x ∈ o, x < n
  | 0, o => by
    show o ∈ [[]] ↔ _
    rw [List.mem_singleton]
    constructor
    · rintro rfl; exact ⟨List.nodup_nil, rfl, fun x hx => by cases hx⟩
    · rintro ⟨_, h, _⟩; exact List.eq_nil_of_length_eq_zero h
  | k + 1, o => by
    show o ∈ (ordsK n k).flatMap _ ↔ _
    rw [List.mem_flatMap]
    constructor
    · rintro ⟨line, h1, h2⟩
      obtain ⟨x, hx, rfl⟩ := List.mem_map.mp h2
      obtain ⟨hx, hc⟩ := List.mem_filter.mp hx
      obtain ⟨i1, i2, i3⟩ := (ordsK_mem n k line).mp h1
      have nc : x ∉ line := by simpa using hc
      refine ⟨?_, by simp [i2], fun y hy => ?_⟩
      · rw [List.nodup_append]
        exact ⟨i1, by simp, fun a ha b hb => by rw [List.mem_singleton] at hb; subst hb; exact fun z => nc (z ▸ ha)⟩
      · rcases List.mem_append.mp hy with hy | hy
        · exact i3 y hy
        · rw [List.mem_singleton] at hy
          subst hy
          exact List.mem_range.mp hx
    · rintro ⟨h1, h2, h3⟩
      have hne : o ≠ [] := fun e => by rw [e] at h2; cases h2
      obtain ⟨o', x, rfl⟩ : ∃ o' t', o = o' ++ [t'] := ⟨o.dropLast, o.getLast hne, (List.dropLast_concat_getLast hne).symm⟩
      rw [List.nodup_append] at h1
      refine ⟨o', (ordsK_mem n k o').mpr ⟨h1.1, by simpa using h2, fun y hy => h3 y (List.mem_append_left _ hy)⟩, List.mem_map.mpr ⟨x, List.mem_filter.mpr ⟨List.mem_range.mpr (h3 x (by simp)), ?_⟩, rfl⟩⟩
      have : x ∉ o' := fun hx => h1.2.2 x hx x (by simp) rfl
      simpa using this
theorem ords_perm {n : Nat} {o : List Nat} : o ∈ ordsK n n ↔ o.Perm (List.range n) := by
  rw [ordsK_mem]
  constructor
  · rintro ⟨h1, h2, h3⟩
    have sub : o ⊆ List.range n := fun x hx => List.mem_range.mpr (h3 x hx)
    refine (List.perm_ext_iff_of_nodup h1 List.nodup_range).mpr fun a => ⟨fun h => sub h, fun h => ?_⟩
    -- a set of n of n numbers is all
    cases hc : decide (a ∈ o) with
    | true => exact of_decide_eq_true hc
    | false =>
      have na := of_decide_eq_false hc
      have := nodup_len n (List.nodup_cons.mpr ⟨na, h1⟩) fun x hx => by
        rcases List.mem_cons.mp hx with rfl | hx
        · exact List.mem_range.mp h
        · exact h3 x hx
      rw [List.length_cons] at this
      omega
  · intro h
    exact ⟨h.nodup_iff.mpr List.nodup_range, by rw [h.length_eq, List.length_range], fun x hx => List.mem_range.mp (h.mem_iff.mp hx)⟩
theorem lexL_app {a b : List Nat} : ∀ (p q : List Nat), lexL a b = true → a.length = b.length → lexL (a ++ p) (b ++ q) = true := by
  induction a generalizing b with
  | nil => intro p q h hl; cases b with
    | nil => cases h
    | cons _ _ => cases hl
  | cons x a ih =>
    intro p q h hl
    cases b with
    | nil => cases hl
    | cons y b =>
      have h : (if x == y then lexL a b else EncO.lt x y) = true := h
      show (if x == y then lexL (a ++ p) (b ++ q) else EncO.lt x y) = true
      by_cases e : (x == y) = true
      · rw [if_pos e] at h ⊢
        exact ih p q h (by simpa using hl)
      · rw [if_neg e] at h ⊢
        exact h
theorem lexL_same (a : List Nat) {x y : Nat} (h : x < y) : lexL (a ++ [x]) (a ++ [y]) = true := by
  induction a with
  | nil =>
    show (if x == y then lexL ([] : List Nat) [] else EncO.lt x y) = true
    rw [if_neg (by simp; omega)]
    exact decide_eq_true h
  | cons z a ih =>
    show (if z == z then lexL (a ++ [x]) (a ++ [y]) else EncO.lt z z) = true
    rw [if_pos (by simp)]
    exact ih
theorem ordsK_up (n : Nat) : ∀ k : Nat, (ordsK n k).Pairwise fun a b => lexL a b = true
  | 0 => List.pairwise_singleton _ _
  | k + 1 => by
    show ((ordsK n k).flatMap _).Pairwise _
    rw [List.pairwise_flatMap]
    refine ⟨fun line _ => ?_, (ordsK_up n k).imp_of_mem fun {a b} ha hb h => ?_⟩
    · rw [List.pairwise_map]
      exact (List.pairwise_lt_range.filter _).imp fun h => lexL_same line h
    · intro x hx y hy
      obtain ⟨p, _, rfl⟩ := List.mem_map.mp hx
      obtain ⟨q, _, rfl⟩ := List.mem_map.mp hy
      exact lexL_app [p] [q] h (by rw [((ordsK_mem n k a).mp ha).2.1, ((ordsK_mem n k b).mp hb).2.1])
theorem ordsK_len (n : Nat) : ∀ k : Nat, (ordsK n k).length ≤ n ^ k
  | 0 => Nat.le_refl _
  | k + 1 => by
    have := flat_len (fun line => ((List.range n).filter fun x => !line.contains x).map fun x => line ++ [x]) n (ordsK n k) fun line _ => by
      rw [List.length_map]
      exact Nat.le_trans (List.length_filter_le _ _) (by simp)
    have ih := ordsK_len n k
    have e : (ordsK n (k + 1)).length = ((ordsK n k).flatMap fun line => ((List.range n).filter fun x => !line.contains x).map fun x => line ++ [x]).length := rfl
    rw [e, Nat.pow_succ]
    exact Nat.le_trans this (Nat.mul_le_mul_right _ ih)
theorem v_law_orders (n : Nat) (hn : n ≤ 5) (st : Store) : m__law_orders [.int n] st = .ok (lE (ordsK n n)) st := by
  have hr := rng1_n n (show n ≤ 1000 by omega)
  have pw : ∀ k, k ≤ 5 → (ordsK n k).length ≤ 3125 := fun k hk => by
    refine Nat.le_trans (ordsK_len n k) ?_
    have h1 : n ^ k ≤ 5 ^ k := Nat.pow_le_pow_left hn k
    have h2 : 5 ^ k ≤ 5 ^ 5 := Nat.pow_le_pow_right (by omega) hk
    have : 5 ^ 5 = 3125 := rfl
    omega
  have inner : ∀ (k : Nat), k < 5 → ∀ (lines : List (List Nat)) (done0 : List (List Nat)) (z2 : PyData) (s4 s5 : Ev.Slot) (s1 : Ev.Slot), (∀ l ∈ lines, l.length = k) → (lines.length * 5 + done0.length ≤ 100000) →
      ∃ t4 t5, forGo (gN 4) b1__law_orders (lines.map enc) [some (.int n, false), s1, some (z2, false), some (lE done0, true), s4, s5] st
        = .nx [some (.int n, false), s1, some (z2, false), some (lE (done0 ++ lines.flatMap fun line => ((List.range n).filter fun x => !line.contains x).map fun x => line ++ [x]), true), t4, t5] st := by
    intro k hk lines done0 z2 s4 s5 s1 hl hs
    refine for_t (R := fun r => ∃ t4 t5, r = .nx [some (.int n, false), s1, some (z2, false), some (lE (done0 ++ lines.flatMap fun line => ((List.range n).filter fun x => !line.contains x).map fun x => line ++ [x]), true), t4, t5] st) enc
      (fun done ρ st' => st' = st ∧ ∃ t4 t5, ρ = [some (.int n, false), s1, some (z2, false), some (lE (done0 ++ done.flatMap fun line => ((List.range n).filter fun x => !line.contains x).map fun x => line ++ [x]), true), t4, t5])
      lines ⟨rfl, s4, s5, by simp⟩ ?_ ?_
    · rintro done line rest ρ st' ee ⟨rfl, t4, t5, rfl⟩
      refine ⟨_, rfl, ?_⟩
      have ll : line.length = k := hl line (by rw [ee]; simp)
      obtain ⟨A, hA⟩ : ∃ A, A = done0 ++ done.flatMap fun line => ((List.range n).filter fun x => !line.contains x).map fun x => line ++ [x] := ⟨_, rfl⟩
      obtain ⟨B, hB⟩ : ∃ B, B = ((List.range n).filter fun x => !line.contains x).map fun x => line ++ [x] := ⟨_, rfl⟩
      have Bl : B.length ≤ 5 := by rw [hB, List.length_map]; exact Nat.le_trans (List.length_filter_le _ _) (by simp; omega)
      have Al : A.length ≤ 100000 := by
        have := flat_len (fun line => ((List.range n).filter fun x => !line.contains x).map fun x => line ++ [x]) 5 done fun line _ => by
          rw [List.length_map]
          exact Nat.le_trans (List.length_filter_le _ _) (by simp; omega)
        have l2 := congrArg List.length ee
        simp only [List.length_append, List.length_cons] at l2
        rw [hA, List.length_append]
        omega
      have e : done0 ++ (done ++ [line]).flatMap (fun line => ((List.range n).filter fun x => !line.contains x).map fun x => line ++ [x]) = A ++ B := by
        rw [List.flatMap_append, List.flatMap_cons, List.flatMap_nil, List.append_nil, ← List.append_assoc, ← hA, ← hB]
      rw [e, ← hA]
      have c1 : ∀ a1 a2 a3 a5, c1__law_orders [some (.int n, false), a1, a2, a3, some (tE line, false), a5] st' = .ok (lE B) st' := fun a1 a2 a3 a5 => by
        rw [hB]
        refine (lc_t (List.range n) enc (fun x => !line.contains x) (fun x => enc (line ++ [x])) (by simp [hr]) (fun z hz => ⟨_, rfl, ?_, fun _ => ?_⟩) (by simp; omega)).trans (by rw [lE, List.map_map]; rfl)
        · have := notInT z line
          simp only [enc_nat] at this
          simp [this, -List.contains_eq_mem]
        · have := addD_tt (xs := line.map enc) (ys := [.int (z : Int)]) (by simp; omega)
          simp [this]
      have nl : noLs (B.map enc) = true := noLs_map B
      simp only [tE_eq, lE_eq] at c1 ⊢
      have ea : (A ++ B).map enc = A.map enc ++ B.map enc := List.map_append
      rw [ea]
      have la : (A.map enc).length ≤ 100000 := by simpa using Al
      have lb : (B.map enc).length ≤ 5 := by simpa using Bl
      generalize A.map enc = ZA at la ⊢
      generalize B.map enc = ZB at c1 lb nl ⊢
      simp [b1__law_orders, c1, nl, show ZA.length + ZB.length ≤ 16777216 by omega]
    · rintro ρ st' ⟨rfl, t4, t5, rfl⟩
      exact ⟨t4, t5, rfl⟩
  have outer : ∃ t2 t3 t4 t5, forGo (gN 2) b2__law_orders ((List.range n).map enc) [some (.int n, false), some (lE (ordsK n 0), true), none, none, none, none] st = .nx [some (.int n, false), some (lE (ordsK n n), true), t2, t3, t4, t5] st := by
    refine for_t (R := fun r => ∃ t2 t3 t4 t5, r = .nx [some (.int n, false), some (lE (ordsK n n), true), t2, t3, t4, t5] st) enc
      (fun done ρ st' => st' = st ∧ ∃ t2 t3 t4 t5, ρ = [some (.int n, false), some (lE (ordsK n done.length), true), t2, t3, t4, t5])
      (List.range n) ⟨rfl, none, none, none, none, rfl⟩ ?_ ?_
    · rintro done x rest ρ st' ee ⟨rfl, t2, t3, t4, t5, rfl⟩
      have dl : done.length < 5 := by
        have := congrArg List.length ee
        simp at this
        omega
      refine ⟨_, rfl, ?_⟩
      have pk := pw done.length (by omega)
      obtain ⟨u4, u5, e⟩ := inner done.length dl (ordsK n done.length) [] (.int x) t4 t5 (some (lE (ordsK n done.length), false)) (fun l hl => ((ordsK_mem n _ l).mp hl).2.1) (by simp; omega)
      have en : ordsK n (done ++ [x]).length = (ordsK n done.length).flatMap fun line => ((List.range n).filter fun x => !line.contains x).map fun x => line ++ [x] := by
        rw [List.length_append, List.length_singleton]; rfl
      rw [en]
      rw [List.nil_append] at e
      simp only [lE_eq, List.map_nil] at e ⊢
      generalize ((ordsK n done.length).flatMap fun line => ((List.range n).filter fun x => !line.contains x).map fun x => line ++ [x]).map enc = ZB at e ⊢
      generalize (ordsK n done.length).map enc = ZA at e ⊢
      simp [b2__law_orders, e]
    · rintro ρ st' ⟨rfl, t2, t3, t4, t5, rfl⟩
      rw [List.length_range]
      exact ⟨t2, t3, t4, t5, rfl⟩
  obtain ⟨t2, t3, t4, t5, e⟩ := outer
  simp only [lE_eq] at e
  have e0 : (ordsK n 0).map enc = [.tuple []] := rfl
  rw [e0] at e
  simp only [lE_eq]
  generalize (ordsK n n).map enc = Z at e
  generalize (List.range n).map enc = ZR at e hr
  simp [m__law_orders, hr, e]

end Row
end

section
set_option maxRecDepth 100000
set_option maxHeartbeats 400000
namespace Row
open PySem PySem.Spec PyProof.Rows L2 Ev
open Enc (enc)
/-! ### upsets asked -/
theorem perm_len {t : Nat} {line : List Nat} (h : line.Perm (List.range t)) : line.length = t := by rw [h.length_eq, List.length_range]
theorem v_upsets (t : Nat) {gs : List (Nat × Nat)} {rs : List (Option Bool)} (go : gsOk t gs) (h : gs.length = rs.length) (hl : gs.length ≤ 1000) (t8 : t ≤ 8) {line : List Nat} (hp : line.Perm (List.range t)) (st : Store) : m_upsets [lea t (tE gs), tE rs, tE line] st = .ok (tE (upL gs rs line)) st := by
  have c1 := v_check_results (t : Int) gs rs st h hl
  have c2 := v_check_order (g := tE gs) hp (by omega) st
  have e := v_upsets_of t go h hl hp st
  simp only [tE_eq, lE_eq] at c1 c2 e
  simp [m_upsets, c1, c2, e, -List.map_map]
theorem v_upsets_bad (t : Nat) {gs : List (Nat × Nat)} {rs : List (Option Bool)} (h : gs.length = rs.length) (hl : gs.length ≤ 1000) {d : PyData} (hb : OrdBad t d) (st : Store) : m_upsets [lea t (tE gs), tE rs, d] st = .exn ⟨xn_BadOrder, []⟩ st := by
  have c1 := v_check_results (t : Int) gs rs st h hl
  have c2 := v_check_order_bad (g := tE gs) hb st
  simp only [tE_eq, lE_eq] at c1 c2
  simp [m_upsets, c1, c2]
theorem v_is_best (t : Nat) {gs : List (Nat × Nat)} {rs : List (Option Bool)} (go : gsOk t gs) (h : gs.length = rs.length) (hl : gs.length ≤ 1000) (t5 : t ≤ 5) {line : List Nat} (hp : line.Perm (List.range t)) {v : Vo} (hb : Bst (won gs rs) (List.range t) v) (st : Store) : m_is_best_order [lea t (tE gs), tE rs, tE line] st = .ok (.bool ((upL gs rs line).length == v.1)) st := by
  obtain ⟨v', e, hb'⟩ := v_best_of t h hl t5 st
  have := bst_uniq hb hb'
  subst this
  have c1 := v_check_results (t : Int) gs rs st h hl
  have c2 := v_order_ok hp (by omega) st
  have e2 := v_upsets_of t go h hl hp st
  have e3 := beq_cast (upL gs rs line).length v.1
  simp only [tE_eq, lE_eq] at c1 c2 e e2
  generalize upL gs rs line = U at e2 e3
  simp [m_is_best_order, c1, c2, e, e2, e3, -List.map_map]
theorem v_is_best_bad (t : Nat) {gs : List (Nat × Nat)} {rs : List (Option Bool)} (h : gs.length = rs.length) (hl : gs.length ≤ 1000) {d : PyData} (hb : OrdBad t d) (st : Store) : m_is_best_order [lea t (tE gs), tE rs, d] st = .ok (.bool false) st := by
  have c1 := v_check_results (t : Int) gs rs st h hl
  have c2 := v_order_bad hb st
  simp only [tE_eq] at c1
  simp [m_is_best_order, c1, c2]
/-! the law's own upsets -/
theorem ix_wl (p : Nat × Nat) (b : Bool) : ixD (.tuple [.int p.1, .int p.2]) (.int (b.toNat : Int)) = some (.int ((wl p b).1 : Nat)) := by cases b <;> rfl
theorem ix_wl' (p : Nat × Nat) (b : Bool) : ixD (.tuple [.int p.1, .int p.2]) (.int (1 - (b.toNat : Int))) = some (.int ((wl p b).2 : Nat)) := by cases b <;> rfl
theorem game_at {gs : List (Nat × Nat)} {g : Nat} {p : Nat × Nat} (h : gs[g]? = some p) : ixD (.tuple (gs.map enc)) (.int (g : Int)) = some (.tuple [.int p.1, .int p.2]) := ix_t (f := enc) h
theorem upL_zip (gs : List (Nat × Nat)) (rs : List (Option Bool)) (line : List Nat) : (rs.zipIdx.filter fun p => !p.1.isNone && upr gs rs line p.2).map (·.2) = upL gs rs line := by
  unfold upL dec
  rw [List.filter_map, List.filter_filter]
  congr 2
  funext p
  simp [Function.comp, Bool.and_comm]
theorem v_law_upsets {t : Nat} {gs : List (Nat × Nat)} {rs : List (Option Bool)} (go : gsOk t gs) (h : gs.length = rs.length) (hl : gs.length ≤ 1000) {line : List Nat} (hp : line.Perm (List.range t)) (st : Store) : m__law_upsets [tE gs, tE rs, tE line] st = .ok (tE (upL gs rs line)) st := by
  have loop : ∃ s4 s5, forGo (gTp (gCn (gN 4) (gCn (gN 5) gNl))) b1__law_upsets (rs.zipIdx.map fun p => .tuple [.int (p.2 : Nat), enc p.1]) [some (tE gs, false), some (tE rs, false), some (tE line, false), some (lE ([] : List Nat), true), none, none] st
      = .nx [some (tE gs, false), some (tE rs, false), some (tE line, false), some (lE (upL gs rs line), true), s4, s5] st := by
    rw [← upL_zip]
    refine for_t (R := fun r => ∃ s4 s5, r = .nx [some (tE gs, false), some (tE rs, false), some (tE line, false), some (lE ((rs.zipIdx.filter fun p => !p.1.isNone && upr gs rs line p.2).map (·.2)), true), s4, s5] st) (fun p : Option Bool × Nat => .tuple [.int (p.2 : Nat), enc p.1])
      (fun done ρ st' => st' = st ∧ ∃ s4 s5, ρ = [some (tE gs, false), some (tE rs, false), some (tE line, false), some (lE ((done.filter fun p => !p.1.isNone && upr gs rs line p.2).map (·.2)), true), s4, s5])
      rs.zipIdx ⟨rfl, none, none, rfl⟩ ?_ ?_
    · rintro done ⟨o, i⟩ rest ρ st' ee ⟨rfl, s4, s5, rfl⟩
      have hx : (o, i) ∈ rs.zipIdx := by rw [ee]; simp
      refine ⟨_, rfl, ?_⟩
      have fl : ((done.filter fun p => !p.1.isNone && upr gs rs line p.2).map (·.2)).length < 100000 := by
        rw [List.length_map]
        have := List.length_filter_le (fun p : Option Bool × Nat => !p.1.isNone && upr gs rs line p.2) done
        have := congrArg List.length ee
        simp only [List.length_append, List.length_cons, List.length_zipIdx] at this
        omega
      rw [List.filter_append, List.map_append, List.filter_cons, List.filter_nil]
      obtain ⟨A, hA⟩ : ∃ A, A = (done.filter fun p => !p.1.isNone && upr gs rs line p.2).map (·.2) := ⟨_, rfl⟩
      rw [← hA] at fl ⊢
      cases o with
      | none => simp [b1__law_upsets]
      | some b =>
        have hi : i ∈ dec rs := List.mem_map.mpr ⟨(some b, i), List.mem_filter.mpr ⟨hx, rfl⟩, rfl⟩
        obtain ⟨p, b', h1, h2, h3⟩ := dec_mem h hi
        obtain ⟨_, k1, k2⟩ := List.mem_zipIdx hx
        have hb : b' = b := by
          have : rs[i]? = some (some b) := by
            rw [List.getElem?_eq_getElem (by omega), k2]
            simp
          rw [this] at h2
          cases h2
          rfl
        subst hb
        obtain ⟨q1, q2⟩ := wl_lt go h hi
        have i1 := indexL_enc (perm_mem hp q1)
        have i2 := indexL_enc (perm_mem hp q2)
        have g1 := game_at h1
        have w1 := ix_wl p b'
        have w2 := ix_wl' p b'
        have eu : upr gs rs line i = decide ((line.idxOf (wl p b').2 : Int) < (line.idxOf (wl p b').1 : Int)) := by
          unfold upr
          rw [h3, Bool.eq_iff_iff, decide_eq_true_eq, decide_eq_true_eq]
          omega
        rw [h3] at i1 i2
        simp only [enc_nat] at i1 i2
        simp only [eu]
        generalize wl p b' = W at i1 i2 w1 w2
        generalize line.idxOf W.1 = I1 at i1
        generalize line.idxOf W.2 = I2 at i2
        have en : enc (some b') = PyData.int (b'.toNat : Int) := rfl
        by_cases hc : (I2 : Int) < (I1 : Int) <;> simp [b1__law_upsets, en, g1, w1, w2, i1, i2, hc, show A.length < 16777216 by omega]
    · rintro ρ st' ⟨rfl, s4, s5, rfl⟩
      exact ⟨s4, s5, rfl⟩
  obtain ⟨s4, s5, e⟩ := loop
  have z := enu_t rs
  simp only [lE_eq, tE_eq, List.map_nil] at e ⊢
  generalize (rs.zipIdx.map fun p => PyData.tuple [.int (p.2 : Nat), enc p.1]) = Z at e z
  generalize (upL gs rs line).map enc = ZU at e ⊢
  simp [m__law_upsets, z, e]
/-! ### about upsets -/
theorem idx_rev {line : List Nat} (nd : line.Nodup) {x : Nat} (hx : x ∈ line) : line.reverse.idxOf x = line.length - 1 - line.idxOf x := by
  have hi := List.idxOf_lt_length_of_mem hx
  have nr : line.reverse.Nodup := (List.reverse_perm line).nodup_iff.mpr nd
  have hj : line.length - 1 - line.idxOf x < line.reverse.length := by rw [List.length_reverse]; omega
  have e : line.reverse[line.length - 1 - line.idxOf x]'hj = x := by
    rw [List.getElem_reverse]
    have : line.length - 1 - (line.length - 1 - line.idxOf x) = line.idxOf x := by omega
    simp only [this]
    exact List.getElem_idxOf hi
  have := nr.idxOf_getElem (line.length - 1 - line.idxOf x) hj
  rw [e] at this
  exact this
theorem wl_ne {t : Nat} {gs : List (Nat × Nat)} {rs : List (Option Bool)} (go : gsOk t gs) (h : gs.length = rs.length) {i : Nat} (hi : i ∈ dec rs) : (wlAt gs rs i).1 ≠ (wlAt gs rs i).2 := by
  obtain ⟨p, b, h1, h2, h3⟩ := dec_mem h hi
  have := go p (List.mem_of_getElem? h1)
  rw [h3]
  unfold wl
  cases b <;> simp <;> omega
theorem upL_rev {t : Nat} {gs : List (Nat × Nat)} {rs : List (Option Bool)} (go : gsOk t gs) (h : gs.length = rs.length) {line : List Nat} (hp : line.Perm (List.range t)) : upL gs rs line.reverse = (dec rs).filter fun i => !upr gs rs line i := by
  unfold upL
  apply List.filter_congr
  intro i hi
  obtain ⟨q1, q2⟩ := wl_lt go h hi
  have nd : line.Nodup := hp.nodup_iff.mpr List.nodup_range
  have m1 := perm_mem hp q1
  have m2 := perm_mem hp q2
  have l1 := List.idxOf_lt_length_of_mem m1
  have l2 := List.idxOf_lt_length_of_mem m2
  unfold upr
  rw [idx_rev nd m1, idx_rev nd m2]
  have ne : line.idxOf (wlAt gs rs i).1 ≠ line.idxOf (wlAt gs rs i).2 := fun e => by
    apply wl_ne go h hi
    have e1 := List.getElem_idxOf l1
    have e2 := List.getElem_idxOf l2
    rw [← e1, ← e2]
    simp only [e]
  rw [Bool.eq_iff_iff, decide_eq_true_eq, Bool.not_eq_true', decide_eq_false_iff_not]
  omega
theorem dec_up (rs : List (Option Bool)) : (dec rs).Pairwise (· < ·) := by
  unfold dec
  have s : ((rs.zipIdx.filter fun p => !p.1.isNone).map (·.2)).Sublist (rs.zipIdx.map (·.2)) := List.Sublist.map _ List.filter_sublist
  refine List.Pairwise.sublist s ?_
  rw [List.zipIdx_map_snd]
  exact List.pairwise_lt_range'
theorem up_sorted {t : Nat} {gs : List (Nat × Nat)} {rs : List (Option Bool)} (go : gsOk t gs) (h : gs.length = rs.length) {line : List Nat} (hp : line.Perm (List.range t)) : (upL gs rs line ++ upL gs rs line.reverse).mergeSort leO = dec rs := by
  refine sort_uniq ?_ ((dec_up rs).imp fun {a b} h => ?_)
  · rw [upL_rev go h hp]
    exact List.filter_append_perm _ _
  · unfold leO
    show (!decide (b < a)) = true
    rw [Bool.not_eq_true', decide_eq_false_iff_not]
    omega
theorem upL_cost {t : Nat} {gs : List (Nat × Nat)} {rs : List (Option Bool)} (go : gsOk t gs) (h : gs.length = rs.length) {line : List Nat} (hp : line.Perm (List.range t)) : (upL gs rs line).length = cost (won gs rs) line := by
  unfold cost upL
  rw [← dec_map h, List.countP_map, ← List.countP_eq_length_filter]
  apply List.countP_congr
  intro i hi
  obtain ⟨q1, q2⟩ := wl_lt go h hi
  have m1 := perm_mem hp q1
  have m2 := perm_mem hp q2
  show upr gs rs line i = true ↔ (decide _ && decide _ && decide _) = true
  rw [decide_eq_true m1, decide_eq_true m2]
  rfl
/-! a game decided more -/
theorem won_set : ∀ (gs : List (Nat × Nat)) (rs : List (Option Bool)) (g : Nat) (b : Bool) (q : Nat × Nat → Bool) (p : Nat × Nat), gs[g]? = some p → rs[g]? = some none → (won gs (rs.set g (some b))).countP q = (won gs rs).countP q + (q (wl p b)).toNat
  | [], _, g, b, q, p, h, _ => by simp at h
  | x :: gs, [], g, b, q, p, _, h => by simp at h
  | x :: gs, o :: rs, 0, b, q, p, h1, h2 => by
    simp at h1 h2
    subst h1 h2
    have e1 : won (x :: gs) ((none :: rs).set 0 (some b)) = wl x b :: won gs rs := rfl
    have e2 : won (x :: gs) (none :: rs) = won gs rs := rfl
    rw [e1, e2, List.countP_cons]
    cases q (wl x b) <;> rfl
  | x :: gs, o :: rs, g + 1, b, q, p, h1, h2 => by
    have ih := won_set gs rs g b q p (by simpa using h1) (by simpa using h2)
    have e1 : won (x :: gs) ((o :: rs).set (g + 1) (some b)) = (match o with | none => won gs (rs.set g (some b)) | some c => wl x c :: won gs (rs.set g (some b))) := by cases o <;> rfl
    have e2 : won (x :: gs) (o :: rs) = (match o with | none => won gs rs | some c => wl x c :: won gs rs) := by cases o <;> rfl
    rw [e1, e2]
    cases o with
    | none => exact ih
    | some c =>
      simp only [List.countP_cons, ih]
      omega
theorem cost_set {gs : List (Nat × Nat)} {rs : List (Option Bool)} {g : Nat} {p : Nat × Nat} (b : Bool) (h1 : gs[g]? = some p) (h2 : rs[g]? = some none) (o : List Nat) : cost (won gs rs) o ≤ cost (won gs (rs.set g (some b))) o ∧ cost (won gs (rs.set g (some b))) o ≤ cost (won gs rs) o + 1 := by
  unfold cost
  rw [won_set gs rs g b _ p h1 h2]
  constructor
  · omega
  · have : ∀ x : Bool, x.toNat ≤ 1 := fun x => by cases x <;> decide
    have := this (decide ((wl p b).1 ∈ o) && decide ((wl p b).2 ∈ o) && decide (o.idxOf (wl p b).2 < o.idxOf (wl p b).1))
    omega
theorem bst_le {wn : List (Nat × Nat)} {r : List Nat} {v : Vo} (h : Bst wn r v) {o : List Nat} (ho : o.Perm r) : v.1 ≤ cost wn o := by
  have := leV.mp (h.least o ho)
  rcases this with h | h
  · exact Nat.le_of_lt h
  · exact Nat.le_of_eq h.1
theorem more_bound {gs : List (Nat × Nat)} {rs : List (Option Bool)} {g : Nat} {p : Nat × Nat} (b : Bool) (h1 : gs[g]? = some p) (h2 : rs[g]? = some none) {r : List Nat} {v v' : Vo} (hv : Bst (won gs rs) r v) (hv' : Bst (won gs (rs.set g (some b))) r v') : v.1 ≤ v'.1 ∧ v'.1 ≤ v.1 + 1 := by
  have c1 := cost_set b h1 h2 v'.2
  have c2 := cost_set b h1 h2 v.2
  have b1 := bst_le hv hv'.pm
  have b2 := bst_le hv' hv.pm
  have := hv.c
  have := hv'.c
  omega
/-- the least of the best is the first of them -/
theorem best_first {t : Nat} {gs : List (Nat × Nat)} {rs : List (Option Bool)} (go : gsOk t gs) (h : gs.length = rs.length) {v : Vo} (hv : Bst (won gs rs) (List.range t) v) : ∃ rest, ((ordsK t t).filter fun o => (upL gs rs o).length == v.1) = v.2 :: rest := by
  obtain ⟨B, hB⟩ : ∃ B, B = (ordsK t t).filter fun o => (upL gs rs o).length == v.1 := ⟨_, rfl⟩
  rw [← hB]
  have hm : v.2 ∈ B := by
    rw [hB, List.mem_filter]
    refine ⟨ords_perm.mpr hv.pm, ?_⟩
    rw [beq_iff_eq, upL_cost go h hv.pm, ← hv.c]
  have hpw : B.Pairwise fun a b => lexL a b = true := by
    rw [hB]
    exact (ordsK_up t t).filter _
  cases hB0 : B with
  | nil => rw [hB0] at hm; cases hm
  | cons x rest =>
    refine ⟨rest, ?_⟩
    by_cases e : x = v.2
    · rw [e]
    · exfalso
      rw [hB0] at hm hpw
      rcases List.mem_cons.mp hm with h' | hm
      · exact e h'.symm
      · have lt := (List.pairwise_cons.mp hpw).1 _ hm
        have hx : x ∈ (ordsK t t).filter fun o => (upL gs rs o).length == v.1 := by rw [← hB, hB0]; exact List.mem_cons_self
        rw [List.mem_filter, beq_iff_eq] at hx
        have px := ords_perm.mp hx.1
        rw [upL_cost go h px] at hx
        have := leV.mp (hv.least x px)
        rw [hx.2] at this
        rcases this with h' | ⟨_, h'⟩
        · simp at h'
        · unfold leO at h'
          have e2 : EncO.lt x v.2 = lexL x v.2 := rfl
          rw [e2, lt] at h'
          cases h'
end Row
end

section
set_option maxRecDepth 100000
set_option maxHeartbeats 400000
namespace Row
open PySem PySem.Spec PyProof.Rows L2 Ev
open Enc (enc)
/-! ### drawn spoils -/
theorem nats_int {l : List Nat} (h : ∀ x ∈ l, x < 1000) {x : PyData} (hx : x ∈ l.map enc) : ∃ i : Int, x = .int i ∧ i.natAbs < 100000 := by
  obtain ⟨n, hn, rfl⟩ := List.mem_map.mp hx
  have := h n hn
  exact ⟨n, rfl, by omega⟩
theorem el_nats {l : List Nat} {x : PyData} (hx : x ∈ l.map enc) : El x := by
  obtain ⟨n, _, rfl⟩ := List.mem_map.mp hx
  exact .inl ⟨_, rfl⟩
theorem v_law_bent {k : Nat} (hk : k < 800000000) {st : Store} (g : Good k st) {t : Nat} (t1 : 1 ≤ t) (t5 : t ≤ 5) {line : List Nat} (hp : line.Perm (List.range t)) : ∃ (d : PyData) (st' : Store), m__law_bent [loc 0, tE line] st = .ok d st' ∧ OrdBad t d ∧ Good (k + 3) st' := by
  have ll := perm_len hp
  have nd : line.Nodup := hp.nodup_iff.mpr List.nodup_range
  obtain ⟨a, st1, e1, ha, g1⟩ := v_draw (by omega) g (n := line.length) (by omega) (by omega)
  obtain ⟨o, st2, e2, ho, g2⟩ := v_any (by omega) g1 (ds := [.int (line.length : Nat), .int (-1), .none, .bool true, .str "0", .tuple [.int 0], .list [.int 0], .dict []]) (by simp) (by simp)
  have oe : El o ∧ withinB 0 ((t : Int) - 1) o = false := by
    simp only [List.mem_cons, List.not_mem_nil, or_false] at ho
    rcases ho with rfl | rfl | rfl | rfl | rfl | rfl | rfl | rfl
    · refine ⟨.inl ⟨_, rfl⟩, ?_⟩
      show (decide (0 ≤ ((line.length : Nat) : Int)) && decide (((line.length : Nat) : Int) ≤ (t : Int) - 1)) = false
      rw [Bool.and_eq_false_iff]
      exact .inr (by rw [decide_eq_false_iff_not]; omega)
    · exact ⟨.inl ⟨_, rfl⟩, rfl⟩
    · exact ⟨.inr (.inr rfl), rfl⟩
    · exact ⟨.inr (.inl ⟨_, rfl⟩), rfl⟩
    · exact ⟨.inr (.inr rfl), rfl⟩
    · exact ⟨.inr (.inr rfl), rfl⟩
    · exact ⟨.inr (.inr rfl), rfl⟩
    · exact ⟨.inr (.inr rfl), rfl⟩
  have zl : (line.map enc).length = line.length := by simp
  have ze : ∀ x ∈ line.map enc, El x := fun x hx => el_nats hx
  have b1 : OrdBad t (.tuple ((line.map enc).take a ++ o :: (line.map enc).drop (a + 1))) := .inr (.inl ⟨_, rfl, by simp; omega, fun x hx => by
    rcases List.mem_append.mp hx with hx | hx
    · exact ze x (List.mem_of_mem_take hx)
    · rcases List.mem_cons.mp hx with rfl | hx
      · exact oe.1
      · exact ze x (List.mem_of_mem_drop hx), o, by simp, oe.2⟩)
  have b2 : OrdBad t (.tuple (line.map enc).tail) := .inr (.inr ⟨line.tail, by rw [← List.map_tail], by simp; omega, .inr (by simp; omega)⟩)
  have b3 : OrdBad t (.tuple (line.map enc ++ (line.map enc).take 1)) := .inr (.inr ⟨line ++ line.take 1, by rw [tE_eq, List.map_append, List.map_take], by simp; omega, .inr (by simp; omega)⟩)
  have b4 : OrdBad t (.list (line.map enc)) := .inl rfl
  have b5 : OrdBad t (.tuple [.tuple (line.map enc)]) := .inr (.inl ⟨_, rfl, by simp, fun x hx => by
    rw [List.mem_singleton] at hx
    subst hx
    exact .inr (.inr rfl), _, List.mem_singleton.mpr rfl, rfl⟩)
  obtain ⟨d, st3, e3, hd, g3⟩ := v_any (by omega) g2 (ds := [.tuple ((line.map enc).take a ++ o :: (line.map enc).drop (a + 1)), .tuple (line.map enc).tail, .tuple (line.map enc ++ (line.map enc).take 1), .list (line.map enc), .none, .int 0, .dict [], .str "0", .tuple [.tuple (line.map enc)]]) (by simp) (by simp)
  refine ⟨d, st3, ?_, ?_, g3⟩
  · simp only [tE_eq]
    generalize line.map enc = Z at zl e3 ⊢
    have tl : (Z.take a).length ≤ 30 := by simp; omega
    have dl1 : (Z.drop (a + 1)).length ≤ 30 := by simp; omega
    have f1 : addD (.tuple (Z.take a)) (.tuple [o]) = some (.tuple (Z.take a ++ [o])) := addD_tt (by simp; omega)
    have f2 : addD (.tuple (Z.take a ++ [o])) (.tuple (Z.drop (a + 1))) = some (.tuple (Z.take a ++ o :: Z.drop (a + 1))) := by
      rw [addD_tt (by rw [List.length_append, List.length_singleton]; omega), List.append_assoc, List.singleton_append]
    have f3 : addD (.tuple Z) (.tuple (Z.take 1)) = some (.tuple (Z ++ Z.take 1)) := addD_tt (by simp; omega)
    have e1' : m__law_draw [loc 0, .int (line.length : Int)] st = .ok (.int a) st1 := e1
    simp [m__law_bent, zl, e1', e2, f1, f2, f3, e3]
  · simp only [List.mem_cons, List.not_mem_nil, or_false] at hd
    rcases hd with rfl | rfl | rfl | rfl | rfl | rfl | rfl | rfl | rfl
    · exact b1
    · exact b2
    · exact b3
    · exact b4
    · exact .inl rfl
    · exact .inl rfl
    · exact .inl rfl
    · exact .inl rfl
    · exact b5
theorem v_law_more_right {k : Nat} (hk : k < 800000000) {st : Store} (g : Good k st) {t : Nat} {gs : List (Nat × Nat)} {rs : List (Option Bool)} (L : Lg t gs rs) (t5 : t ≤ 5) (ho : (dec rs).length ≠ gs.length) {v : Vo} (hv : Bst (won gs rs) (List.range t) v) : ∃ st', m__law_more_right [loc 0, lea t (tE gs), tE rs, .int v.1] st = .ok (.bool true) st' ∧ Good (k + 2) st' := by
  have hl := L.l
  have he := L.e
  obtain ⟨Fr, hFr⟩ : ∃ F, F = (rs.zipIdx.filter fun p => p.1.isNone).map (·.2) := ⟨_, rfl⟩
  have c1 : ∀ s4 s5 s6 s7, c1__law_more_right [some (loc 0, false), some (lea t (tE gs), false), some (tE rs, false), some (.int v.1, false), s4, s5, s6, s7] st = .ok (lE Fr) st := fun s4 s5 s6 s7 => by
    refine (lc_t rs.zipIdx (fun p => .tuple [.int (p.2 : Nat), enc p.1]) (fun p => p.1.isNone) (fun p => enc p.2) ?_ (fun x hx => ⟨_, rfl, ?_, fun _ => ?_⟩) (by simp; omega)).trans (by rw [hFr, lE, List.map_map]; rfl)
    · simp [enu_t]
    · simp
    · simp
  have fl : Fr.length ≤ rs.length := by
    rw [hFr, List.length_map]
    refine Nat.le_trans (List.length_filter_le _ _) (by simp)
  have f0 : Fr ≠ [] := fun e => by
    apply ho
    unfold dec
    rw [List.length_map]
    have h1 : (rs.zipIdx.filter fun p => p.1.isNone) = [] := by
      have := congrArg List.length hFr
      rw [e, List.length_map] at this
      exact List.eq_nil_of_length_eq_zero this.symm
    rw [List.filter_eq_self.mpr, he, List.length_zipIdx]
    intro p hp
    have := List.filter_eq_nil_iff.mp h1 p hp
    rcases p with ⟨o, i⟩
    cases o with
    | none => simp at this
    | some b => rfl
  obtain ⟨x, st1, e1, hx, g1⟩ := v_any (by omega) g (ds := Fr.map enc) (by
    cases Fr with
    | nil => exact absurd rfl f0
    | cons _ _ => simp) (by simp; omega)
  obtain ⟨gm, hg, rfl⟩ := List.mem_map.mp hx
  obtain ⟨b, st2, e2, hb, g2⟩ := v_draw (by omega) g1 (n := 2) (by omega) (by omega)
  have e2' : m__law_draw [loc 0, .int 2] st1 = .ok (.int b) st2 := e2
  have hn : rs[gm]? = some none := by
    rw [hFr] at hg
    obtain ⟨⟨o, i⟩, hm, rfl⟩ := List.mem_map.mp hg
    obtain ⟨hm, hp⟩ := List.mem_filter.mp hm
    obtain ⟨_, k1, k2⟩ := List.mem_zipIdx hm
    have : o = none := by simpa using hp
    rw [List.getElem?_eq_getElem (by omega)]
    simp at k2
    rw [← k2, this]
  have hgl : gm < rs.length := (List.getElem?_eq_some_iff.mp hn).1
  have hgp : gs[gm]? = some gs[gm] := List.getElem?_eq_getElem (by omega)
  obtain ⟨rs', hrs⟩ : ∃ r, r = rs.set gm (some (b == 1)) := ⟨_, rfl⟩
  have hl' : gs.length = rs'.length := by rw [hrs, List.length_set]; exact he
  obtain ⟨v', _, hv'⟩ := v_best_of t hl' (by omega) t5 st2
  have ef := v_fewest_upsets t hl' (by omega) t5 hv' st2
  have bd := more_bound (b == 1) hgp hn hv (by rw [← hrs]; exact hv')
  refine ⟨st2, ?_, g2.mono (by omega)⟩
  have a1 : addD (.tuple ((rs.map enc).take gm)) (.tuple [.int b]) = some (.tuple ((rs.map enc).take gm ++ [.int b])) := addD_tt (by simp; omega)
  have a2 : addD (.tuple ((rs.map enc).take gm ++ [.int b])) (.tuple ((rs.map enc).drop (gm + 1))) = some (tE rs') := by
    rw [addD_tt (by simp; omega), hrs, tE_eq, List.map_set, List.set_eq_take_append_cons_drop, if_pos (by simpa using hgl), List.append_assoc, List.singleton_append]
    congr 3
    have : b = 0 ∨ b = 1 := by omega
    rcases this with rfl | rfl <;> rfl
  have i1 : decide ((v.1 : Int) ≤ (v'.1 : Int)) = true := by rw [decide_eq_true_eq]; omega
  have i2 : decide ((v'.1 : Int) ≤ (v.1 : Int) + 1) = true := by rw [decide_eq_true_eq]; omega
  simp only [tE_eq, lE_eq, enc_nat] at c1 e1 ef a2 ⊢
  generalize rs.map enc = Z at c1 a1 a2 ⊢
  have n1 : noLs (rs'.map enc) = true := noLs_map rs'
  generalize rs'.map enc = Z' at ef a2 n1
  simp at i1 i2
  simp [m__law_more_right, c1, e1, e2', a1, a2, n1, ef, i1, i2]
/-! ### a league judged -/
theorem v_turn {k : Nat} (hk : k < 700000000) {st : Store} (g : Good k st) {t : Nat} {gs : List (Nat × Nat)} {rs : List (Option Bool)} (L : Lg t gs rs) (t5 : t ≤ 5) {v : Vo} (hv : Bst (won gs rs) (List.range t) v) (a1 : PyData) (s11 s12 s13 : Ev.Slot) (x8 : PyData) (f4 f6 f10 : Bool) :
    ∃ st' t11 t12 t13 u4 u6 u10, b1__law_league_right [some (loc 0, false), some (a1, false), some (tE gs, false), some (tE rs, false), some (lE ((ordsK t t).map (upL gs rs)), f4), some (.int v.1, false), some (lE ((ordsK t t).filter fun o => (upL gs rs o).length == v.1), f6), some (tE (dec rs), false), some (x8, false), some (lea t (tE gs), false), some (lE (ordsK t t), f10), s11, s12, s13, none, none, none, none] st
      = .nx [some (loc 0, false), some (a1, false), some (tE gs, false), some (tE rs, false), some (lE ((ordsK t t).map (upL gs rs)), u4), some (.int v.1, false), some (lE ((ordsK t t).filter fun o => (upL gs rs o).length == v.1), u6), some (tE (dec rs), false), some (x8, false), some (lea t (tE gs), false), some (lE (ordsK t t), u10), t11, t12, t13, none, none, none, none] st' ∧ Good (k + 4) st' := by
  have hl := L.l
  have he := L.e
  have go := L.ok
  obtain ⟨E, hE⟩ : ∃ E, E = ordsK t t := ⟨_, rfl⟩
  have mE : ∀ o, o ∈ E ↔ o.Perm (List.range t) := fun o => by rw [hE]; exact ords_perm
  have El' : 0 < E.length := List.length_pos_of_mem ((mE (List.range t)).mpr (List.Perm.refl _))
  have El2 : E.length ≤ 3125 := by
    rw [hE]
    have h1 := ordsK_len t t
    have h2 : t ^ t ≤ 5 ^ t := Nat.pow_le_pow_left t5 t
    have h3 : 5 ^ t ≤ 5 ^ 5 := Nat.pow_le_pow_right (by omega) t5
    have : 5 ^ 5 = 3125 := rfl
    omega
  obtain ⟨B, hB⟩ : ∃ B, B = (ordsK t t).filter fun o => (upL gs rs o).length == v.1 := ⟨_, rfl⟩
  obtain ⟨a, st1, e1, ha, g1⟩ := v_draw (by omega) g (n := E.length) El' (by omega)
  obtain ⟨line, hline⟩ : ∃ l, E[a]? = some l := ⟨_, List.getElem?_eq_getElem ha⟩
  have hp := (mE line).mp (List.mem_of_getElem? hline)
  have hpr : line.reverse.Perm (List.range t) := (List.reverse_perm line).trans hp
  obtain ⟨U, hU⟩ : ∃ U, U = upL gs rs line := ⟨_, rfl⟩
  have i1 : ixD (.list (E.map enc)) (.int (a : Int)) = some (tE line) := ix_l (f := enc) hline
  have i2 : ixD (.list ((E.map (upL gs rs)).map enc)) (.int (a : Int)) = some (tE U) := ix_l (f := enc) (by rw [List.getElem?_map, hline, hU]; rfl)
  have e2 := v_upsets t go he (by omega) (by omega) hp st1
  have e3 := v_upsets t go he (by omega) (by omega) hpr st1
  have e4 := v_is_best t go he (by omega) t5 hp hv st1
  rw [← hU] at e2 e4
  have e5 : isInD (tE line) (.list (B.map enc)) = some (.bool (U.length == v.1)) := by
    have := isInL line B
    have e : B.contains line = (U.length == v.1) := by
      rw [Bool.eq_iff_iff, List.contains_iff_mem, hB, List.mem_filter, ← hU]
      have : line ∈ ordsK t t := ords_perm.mpr hp
      simp [this]
    rw [e] at this
    exact this
  have e6 := rq_bool (U.length == v.1)
  have e7 := neD_s (α := Nat) (by decide) U
  have l1 : U.length ≤ 100 := by
    rw [hU]
    have := List.length_filter_le (upr gs rs line) (dec rs)
    have := dec_len rs
    unfold upL
    omega
  have l2 : (upL gs rs line.reverse).length ≤ 100 := by
    have := List.length_filter_le (upr gs rs line.reverse) (dec rs)
    have := dec_len rs
    unfold upL
    omega
  have e8 : addD (.tuple (U.map enc)) (.tuple ((upL gs rs line.reverse).map enc)) = some (.tuple ((U ++ upL gs rs line.reverse).map enc)) := by
    rw [addD_tt (by simp; omega), List.map_append]
  have e9 := sort_nats (U ++ upL gs rs line.reverse)
  rw [hU, up_sorted go he hp, ← hU] at e9
  have e10 := neD_s (α := Nat) (by decide) (dec rs)
  have e11 : stepD (.tuple (line.map enc)) none none (some (-1)) = some (.tuple (line.reverse.map enc)) := by
    rw [step_rev _ (by simp; have := perm_len hp; omega), List.map_reverse]
  obtain ⟨d, st2, e12, hd, g2⟩ := v_law_bent (by omega) g1 L.t1 t5 hp
  have e13 := v_is_best_bad t he (by omega) hd st2 (gs := gs)
  have e14 := v_upsets_bad t he (by omega) hd st2 (gs := gs)
  have w1 : wt__law_word ⟨xn_BadOrder, []⟩ = some (.str "order") := rfl
  have if1 : isnD (.bool false) (.bool false) = some (.bool false) := rfl
  have nU : noLs (U.map enc) = true := noLs_map U
  rw [← hB, ← hE]
  have e1' : m__law_draw [loc 0, .int (E.length : Int)] st = .ok (.int a) st1 := e1
  simp only [tE_eq, lE_eq] at i1 i2 e2 e3 e4 e5 e12 e13 e14 ⊢
  have le : (E.map enc).length = E.length := by simp
  generalize (U ++ upL gs rs line.reverse).map enc = Z1 at e8 e9
  generalize (upL gs rs line.reverse).map enc = Z2 at e3 e8
  generalize U.map enc = ZU at i2 e2 e7 e8 nU
  generalize line.reverse.map enc = ZLR at e3 e11
  generalize line.map enc = ZL at i1 e2 e4 e5 e11 e12
  generalize (dec rs).map enc = ZD at e9 e10 ⊢
  generalize (E.map (upL gs rs)).map enc = ZE2 at i2 ⊢
  generalize E.map enc = ZE at i1 le ⊢
  generalize B.map enc = ZB at e5 ⊢
  generalize (U.length == v.1) = bb at e4 e5 e6
  have fin : ∀ (u : Bool), noL d = u → ∃ st' t11 t12 t13 u4 u6 u10, b1__law_league_right [some (loc 0, false), some (a1, false), some (.tuple (gs.map enc), false), some (.tuple (rs.map enc), false), some (.list ZE2, f4), some (.int v.1, false), some (.list ZB, f6), some (.tuple ZD, false), some (x8, false), some (lea t (.tuple (gs.map enc)), false), some (.list ZE, f10), s11, s12, s13, none, none, none, none] st
      = .nx [some (loc 0, false), some (a1, false), some (.tuple (gs.map enc), false), some (.tuple (rs.map enc), false), some (.list ZE2, u4), some (.int v.1, false), some (.list ZB, u6), some (.tuple ZD, false), some (x8, false), some (lea t (.tuple (gs.map enc)), false), some (.list ZE, u10), t11, t12, t13, none, none, none, none] st' ∧ Good (k + 4) st' := by
    intro u hu
    cases u <;> simp [b1__law_league_right, le, e1', i1, i2, e2, e3, e4, e5, e6, e7, e8, e9, e10, e11, e12, e13, e14, w1, if1, eWord, nU, hu] <;> exact g2.mono (by omega) 
  exact fin _ rfl
theorem zip_map_self {α β : Type} (f : α → β) : ∀ l : List α, l.zip (l.map f) = l.map fun o => (o, f o)
  | [] => rfl
  | a :: l => by rw [List.map_cons, List.zip_cons_cons, zip_map_self f l, List.map_cons]
theorem v_law_league_right {k : Nat} (hk : k < 600000000) {st : Store} (g : Good k st) {t : Nat} {gs : List (Nat × Nat)} {rs : List (Option Bool)} (L : Lg t gs rs) (t5 : t ≤ 5) : ∃ st', m__law_league_right [loc 0, .int t, tE gs, tE rs] st = .ok (.bool true) st' ∧ Good (k + 100) st' := by
  have hl := L.l
  have he := L.e
  have go := L.ok
  have mk := v_League L.t1 L.t8 (by omega) go st
  have eo := v_law_orders t t5 st
  obtain ⟨v, _, hv⟩ := v_best_of t he (by omega) t5 st
  obtain ⟨E, hE⟩ : ∃ E, E = ordsK t t := ⟨_, rfl⟩
  have mE : ∀ o, o ∈ E ↔ o.Perm (List.range t) := fun o => by rw [hE]; exact ords_perm
  have El2 : E.length ≤ 3125 := by
    rw [hE]
    have h1 := ordsK_len t t
    have h2 : t ^ t ≤ 5 ^ t := Nat.pow_le_pow_left t5 t
    have h3 : 5 ^ t ≤ 5 ^ 5 := Nat.pow_le_pow_right (by omega) t5
    have : 5 ^ 5 = 3125 := rfl
    omega
  obtain ⟨DU, hDU⟩ : ∃ D, D = E.map (upL gs rs) := ⟨_, rfl⟩
  obtain ⟨B, hB⟩ : ∃ B, B = E.filter fun o => (upL gs rs o).length == v.1 := ⟨_, rfl⟩
  obtain ⟨LL, hLL⟩ : ∃ L, L = lea (t : Int) (tE gs) := ⟨_, rfl⟩
  have c1 : ∀ s4 s5 s6 s7 s8 s11 s12 s13 s14 s15 s16 s17, c1__law_league_right [some (loc 0, false), some (.int t, false), some (tE gs, false), some (tE rs, false), s4, s5, s6, s7, s8, some (LL, false), some (lE E, true), s11, s12, s13, s14, s15, s16, s17] st = .ok (lE DU) st := fun s4 s5 s6 s7 s8 s11 s12 s13 s14 s15 s16 s17 => by
    refine (lc_a E enc (fun o => enc (upL gs rs o)) (by simp) (fun o ho => ⟨_, rfl, ?_⟩) (by rw [sizeL]; omega)).trans (by rw [hDU, lE, List.map_map]; rfl)
    have e := v_law_upsets go he (by omega) ((mE o).mp ho) st
    simp only [tE_eq] at e
    simp [e]
  obtain ⟨NS, hNS⟩ : ∃ N, N = DU.map List.length := ⟨_, rfl⟩
  have c2 : ∀ s5 s6 s7 s8 s11 s12 s13 s14 s15 s16 s17, c2__law_league_right [some (loc 0, false), some (.int t, false), some (tE gs, false), some (tE rs, false), some (lE DU, true), s5, s6, s7, s8, some (LL, false), some (lE E, true), s11, s12, s13, s14, s15, s16, s17] st = .ok (lE NS) st := fun s5 s6 s7 s8 s11 s12 s13 s14 s15 s16 s17 => by
    refine (lc_a DU enc (fun o => enc o.length) (by simp) (fun o ho => ⟨_, rfl, ?_⟩) (by rw [hDU, List.length_map, sizeL]; omega)).trans (by rw [hNS, lE, List.map_map]; rfl)
    simp
  have mn : minS (NS.map enc) = some (.int v.1) := by
    refine minS_nat ?_ fun x hx => ?_
    · rw [hNS, hDU, List.map_map]
      refine List.mem_map.mpr ⟨v.2, (mE v.2).mpr hv.pm, ?_⟩
      show (upL gs rs v.2).length = v.1
      rw [upL_cost go he hv.pm, ← hv.c]
    · rw [hNS, hDU, List.map_map] at hx
      obtain ⟨o, ho, rfl⟩ := List.mem_map.mp hx
      show v.1 ≤ (upL gs rs o).length
      rw [upL_cost go he ((mE o).mp ho)]
      exact bst_le hv ((mE o).mp ho)
  have c3 : ∀ s6 s7 s8 s11 s12 s13 s14 s15 s16 s17, c3__law_league_right [some (loc 0, false), some (.int t, false), some (tE gs, false), some (tE rs, false), some (lE DU, true), some (.int v.1, false), s6, s7, s8, some (LL, false), some (lE E, true), s11, s12, s13, s14, s15, s16, s17] st = .ok (lE B) st := fun s6 s7 s8 s11 s12 s13 s14 s15 s16 s17 => by
    have ez : E.zip DU = E.map fun o => (o, upL gs rs o) := by
      rw [hDU]
      exact zip_map_self _ E
    refine (lc_t (E.map fun o => (o, upL gs rs o)) (fun p => .tuple [enc p.1, enc p.2]) (fun p => p.2.length == v.1) (fun p => enc p.1) ?_ (fun p hp => ⟨_, rfl, ?_, fun _ => ?_⟩) (by rw [List.length_map, sizeL]; omega)).trans ?_
    · have := zip_ll E DU
      rw [ez] at this
      simp [this]
    · simp [beq_cast]
    · simp
    · rw [List.filter_map, List.map_map, hB, lE]
      rfl
  obtain ⟨rest, hf⟩ := best_first go he hv
  rw [← hE, ← hB] at hf
  have eb0 : ixD (.list (B.map enc)) (.int 0) = some (tE v.2) := by
    rw [hf, List.map_cons]
    exact ixD_l0
  have c4 : ∀ b4 b6 s7 s8 s11 s12 s13 s14 s15 s16 s17 x5, c4__law_league_right [some (loc 0, false), some (.int t, false), some (tE gs, false), some (tE rs, false), b4, x5, b6, s7, s8, some (LL, false), some (lE E, true), s11, s12, s13, s14, s15, s16, s17] st = .ok (lE (dec rs)) st := fun b4 b6 s7 s8 s11 s12 s13 s14 s15 s16 s17 x5 => by
    refine (lc_t rs.zipIdx (fun p => .tuple [.int (p.2 : Nat), enc p.1]) (fun p => !p.1.isNone) (fun p => enc p.2) ?_ (fun x hx => ⟨_, rfl, ?_, fun _ => ?_⟩) (by simp; omega)).trans ?_
    · simp [enu_t]
    · simp
    · simp
    · unfold dec lE
      rw [List.map_map]
      rfl
  have ef := v_fewest_upsets t he (by omega) t5 hv st
  have eb := v_best_order t he (by omega) t5 hv st
  have nb := neD_s (α := Nat) (by decide) v.2
  have hr8 : rng1Of [.int 8] = some ((List.range 8).map enc) := rng1_n 8 (by omega)
  have loop : ∃ st' t8 t11 t12 t13 u4 u6 u10, forGo (gN 8) b1__law_league_right ((List.range 8).map enc) [some (loc 0, false), some (.int t, false), some (tE gs, false), some (tE rs, false), some (lE DU, true), some (.int v.1, false), some (lE B, true), some (tE (dec rs), false), none, some (LL, false), some (lE E, true), none, none, none, none, none, none, none] st
      = .nx [some (loc 0, false), some (.int t, false), some (tE gs, false), some (tE rs, false), some (lE DU, u4), some (.int v.1, false), some (lE B, u6), some (tE (dec rs), false), t8, some (LL, false), some (lE E, u10), t11, t12, t13, none, none, none, none] st' ∧ Good (k + 32) st' := by
    refine for_t (R := fun r => ∃ st' t8 t11 t12 t13 u4 u6 u10, r = .nx [some (loc 0, false), some (.int t, false), some (tE gs, false), some (tE rs, false), some (lE DU, u4), some (.int v.1, false), some (lE B, u6), some (tE (dec rs), false), t8, some (LL, false), some (lE E, u10), t11, t12, t13, none, none, none, none] st' ∧ Good (k + 32) st') enc
      (fun done ρ st' => ∃ t8 t11 t12 t13 u4 u6 u10, ρ = [some (loc 0, false), some (.int t, false), some (tE gs, false), some (tE rs, false), some (lE DU, u4), some (.int v.1, false), some (lE B, u6), some (tE (dec rs), false), t8, some (LL, false), some (lE E, u10), t11, t12, t13, none, none, none, none] ∧ Good (k + 4 * done.length) st')
      (List.range 8) ⟨none, none, none, none, true, true, true, rfl, g⟩ ?_ ?_
    · rintro done x rest ρ st1 ee ⟨t8, t11, t12, t13, u4, u6, u10, rfl, g1⟩
      have hdn : done.length < 8 := by
        have := congrArg List.length ee
        simp at this
        omega
      obtain ⟨st2, q11, q12, q13, q4, q6, q10, e, g2⟩ := v_turn (by omega) g1 L t5 hv (.int t) t11 t12 t13 (.int x) u4 u6 u10
      rw [← hE, ← hDU, ← hB, ← hLL] at e
      refine ⟨_, rfl, ?_⟩
      show match b1__law_league_right [some (loc 0, false), some (.int t, false), some (tE gs, false), some (tE rs, false), some (lE DU, u4), some (.int v.1, false), some (lE B, u6), some (tE (dec rs), false), some (.int x, false), some (LL, false), some (lE E, u10), t11, t12, t13, none, none, none, none] st1 with
        | .nx ρ2 st2 => _
        | .ct ρ2 st2 => _
        | .brk ρ2 st2 => _
        | r => _
      rw [e]
      exact ⟨_, _, _, _, _, _, _, rfl, g2.mono (by simp; omega)⟩
    · rintro ρ st' ⟨t8, t11, t12, t13, u4, u6, u10, rfl, gd⟩
      rw [List.length_range] at gd
      exact ⟨st', t8, t11, t12, t13, u4, u6, u10, rfl, gd.mono (by omega)⟩
  obtain ⟨st', t8, t11, t12, t13, u4, u6, u10, el, g'⟩ := loop
  have nE : noLs (E.map enc) = true := noLs_map E
  have nDU : noLs (DU.map enc) = true := noLs_map DU
  have nB : noLs (B.map enc) = true := noLs_map B
  have nD : noLs ((dec rs).map enc) = true := noLs_map (dec rs)
  have nL : noL LL = true := by rw [hLL, noL_lea, tE_eq, noL_tup]; exact noLs_map gs
  have ll : ((dec rs).map enc).length = (dec rs).length := by simp
  have lg : (gs.map enc).length = gs.length := by simp
  rw [← hE] at eo
  rw [← hLL] at mk ef eb
  simp only [tE_eq, lE_eq] at mk eo c1 c2 c3 c4 ef eb eb0 nb el ⊢
  generalize (List.range 8).map enc = R8 at hr8 el
  by_cases hd : (dec rs).length = gs.length
  · have hd' : (((dec rs).length : Int) == (gs.length : Int)) = true := by rw [hd]; simp
    refine ⟨st', ?_, g'.mono (by omega)⟩
    generalize (dec rs).map enc = ZD at c4 el nD ll
    generalize gs.map enc = ZG at mk c1 c2 c3 c4 el lg ⊢
    generalize E.map enc = ZE at eo c1 c2 c3 c4 el nE
    generalize DU.map enc = ZU at c1 c2 c3 el nDU
    generalize B.map enc = ZB at c3 eb0 el nB
    simp [m__law_league_right, mk, eo, c1, c2, c3, c4, mn, ef, eb, eb0, nb, hr8, el, nE, nDU, nB, nD, nL, ll, lg, hd']
  · have hd' : (((dec rs).length : Int) == (gs.length : Int)) = false := by
      rw [beq_eq_false_iff_ne]
      omega
    obtain ⟨st2, em, g2⟩ := v_law_more_right (by omega) g' L t5 hd hv
    rw [← hLL] at em
    refine ⟨st2, ?_, g2.mono (by omega)⟩
    simp only [tE_eq] at em
    generalize (dec rs).map enc = ZD at c4 el nD ll
    generalize gs.map enc = ZG at mk c1 c2 c3 c4 el lg ⊢
    generalize E.map enc = ZE at eo c1 c2 c3 c4 el nE
    generalize DU.map enc = ZU at c1 c2 c3 el nDU
    generalize B.map enc = ZB at c3 eb0 el nB
    simp [m__law_league_right, mk, eo, c1, c2, c3, c4, mn, ef, eb, eb0, nb, hr8, el, nE, nDU, nB, nD, nL, ll, lg, hd', em]
end Row
end

section
set_option maxRecDepth 100000
set_option maxHeartbeats 400000
namespace Row
open PySem PySem.Spec PyProof.Rows L2 Ev
open Enc (enc)
/-! ### refusals, the law -/
theorem mulD_reps (ds : List PyData) {n : Nat} (h : n * ds.length ≤ 1000) (hn : n ≤ 1000) : mulD (.list ds) (.int (n : Int)) = some (.list (List.replicate n ds).flatten) := by
  unfold mulD
  simp only []
  have e : (n : Int).toNat = n := by omega
  rw [if_pos (by rw [e, sizeL]; refine ⟨by omega, ?_⟩; first | omega | (rw [Nat.mul_comm]; omega)), e]
theorem v_law_refused_right {k : Nat} (hk : k < 800000000) {st : Store} (gd : Good k st) {t : Nat} {gs : List (Nat × Nat)} {rs : List (Option Bool)} (L : Lg t gs rs) : ∃ st', m__law_refused_right [loc 0, lea t (tE gs), tE rs] st = .ok (.bool true) st' ∧ Good (k + 2) st' := by
  have hl := L.l
  have h1 := L.t1
  have he := L.e
  obtain ⟨no, st1, e1, m1, g1⟩ := v_any (by omega) gd (ds := [.none, .int 0, .tuple [.int 2, .tuple []], .list [lea t (tE gs)], .str "league", .dict []]) (by simp) (by simp)
  have H1 : isaD "League" no = some (.bool false) := by
    simp only [List.mem_cons, List.not_mem_nil, or_false] at m1
    rcases m1 with rfl | rfl | rfl | rfl | rfl | rfl <;> rfl
  have a1 : addD (tE rs) (.tuple [.int 0]) = some (.tuple (rs.map enc ++ [.int 0])) := by
    show (if _ then _ else _) = _
    rw [if_pos (by simp; omega)]
  have a2 : addD (tE rs) (.tuple [.none]) = some (.tuple (rs.map enc ++ [.none])) := by
    show (if _ then _ else _) = _
    rw [if_pos (by simp; omega)]
  obtain ⟨odd, st2, e2, m2, g2⟩ := v_any (by omega) g1 (ds := [.list (rs.map enc), .tuple (rs.map enc ++ [.int 0]), .none, .int 0, .tuple (rs.map enc ++ [.none]), .str "01", .dict []]) (by simp) (by simp)
  have H2 : isaD "tuple" odd = some (.bool false) ∨ ∃ xs, odd = .tuple xs ∧ xs.length ≠ gs.length := by
    simp only [List.mem_cons, List.not_mem_nil, or_false] at m2
    rcases m2 with rfl | rfl | rfl | rfl | rfl | rfl | rfl
    · exact .inl rfl
    · exact .inr ⟨_, rfl, by simp; omega⟩
    · exact .inl rfl
    · exact .inl rfl
    · exact .inr ⟨_, rfl, by simp; omega⟩
    · exact .inl rfl
    · exact .inl rfl
  refine ⟨st2, ?_, g2⟩
  have c1 := fun r st => check_results_no H1 r st
  have c2 := fun st => check_results_bad (t := t) H2 st
  have d1 : ∀ st, m_upsets [no, odd, .none] st = .exn ⟨xn_NoLeague, []⟩ st := fun st => by simp [m_upsets, c1]
  have d2 : ∀ st, m_upsets [lea t (tE gs), odd, .none] st = .exn ⟨xn_BadResults, []⟩ st := fun st => by simp [m_upsets, c2]
  have d3 : ∀ st, m_upsets [lea t (tE gs), tE rs, .none] st = .exn ⟨xn_BadOrder, []⟩ st := fun st => v_upsets_bad t he (by omega) (.inl rfl) st
  have f1 : ∀ st, m_fewest_upsets [no, odd] st = .exn ⟨xn_NoLeague, []⟩ st := fun st => by simp [m_fewest_upsets, c1]
  have f2 : ∀ st, m_fewest_upsets [lea t (tE gs), odd] st = .exn ⟨xn_BadResults, []⟩ st := fun st => by simp [m_fewest_upsets, c2]
  have f3 : ∀ st, m_best_order [no, odd] st = .exn ⟨xn_NoLeague, []⟩ st := fun st => by simp [m_best_order, c1]
  have f4 : ∀ st, m_best_order [lea t (tE gs), odd] st = .exn ⟨xn_BadResults, []⟩ st := fun st => by simp [m_best_order, c2]
  have f5 : ∀ st, m_is_best_order [no, odd, .none] st = .exn ⟨xn_NoLeague, []⟩ st := fun st => by simp [m_is_best_order, c1]
  have f6 : ∀ st, m_is_best_order [lea t (tE gs), odd, .none] st = .exn ⟨xn_BadResults, []⟩ st := fun st => by simp [m_is_best_order, c2]
  have w1 : wt__law_word ⟨xn_NoLeague, []⟩ = some (.str "league") := rfl
  have w2 : wt__law_word ⟨xn_BadResults, []⟩ = some (.str "results") := rfl
  have w3 : wt__law_word ⟨xn_BadOrder, []⟩ = some (.str "order") := rfl
  have mm : mulD (.list [.str "league", .str "results"]) (.int 3) = some (.list [.str "league", .str "results", .str "league", .str "results", .str "league", .str "results"]) := mulD_reps (n := 3) _ (by decide) (by decide)
  have ad : addD (.list [.str "league", .str "results", .str "order"]) (.list [.str "league", .str "results", .str "league", .str "results", .str "league", .str "results"]) = some (.list [.str "league", .str "results", .str "order", .str "league", .str "results", .str "league", .str "results", .str "league", .str "results"]) := addD_ll (by decide)
  have fin : eqD (.list [.str "league", .str "results", .str "order", .str "league", .str "results", .str "league", .str "results", .str "league", .str "results"]) (.list [.str "league", .str "results", .str "order", .str "league", .str "results", .str "league", .str "results", .str "league", .str "results"]) = some (.bool true) := by rfl
  have no1 : noL no = true ∨ noL no = false := by cases noL no <;> simp
  have no2 : noL odd = true ∨ noL odd = false := by cases noL odd <;> simp
  simp only [tE_eq] at e1 e2 a1 a2 d2 d3 f2 f4 f6 ⊢
  rcases no1 with h1 | h1 <;> rcases no2 with h2 | h2 <;> simp [m__law_refused_right, e1, e2, a1, a2, eWord, d1, d2, d3, w1, w2, w3, forGo, b1__law_refused_right, eVcase, f1, f2, f3, f4, f5, f6, mm, ad, fin, h1, h2]
def gs3 : List (Nat × Nat) := [(0, 1), (0, 2), (1, 2)]
theorem gs3_ok : gsOk 3 gs3 := by
  intro p hp
  simp [gs3] at hp
  rcases hp with rfl | rfl | rfl <;> decide
theorem bst_by {wn : List (Nat × Nat)} {t : Nat} {v : Vo} (h1 : v.2 ∈ ordsK t t) (h2 : v.1 = cost wn v.2) (h3 : ∀ o ∈ ordsK t t, leO v (cost wn o, o) = true) : Bst wn (List.range t) v :=
  ⟨ords_perm.mp h1, h2, fun o ho => h3 o (ords_perm.mpr ho)⟩
theorem law_true : ∀ ns : List Int, ns.length ≤ 63 → (∀ z ∈ ns, Builtin.Int.intBits z ≤ 1048576) → ∃ fl st, sHand g_law 1 k_law (some (frzl (ns.map .int), false) :: List.replicate (N_law.length - 1) none) [] = .ret (.bool true) fl st := by
  intro ns hl hb
  have e1 := v_law_hand ns hl []
  obtain ⟨cells, hc⟩ : ∃ c, c = ns.map fun z => (z.natAbs : Int) := ⟨_, rfl⟩
  rw [← hc] at e1
  have gd : Good 0 [[.list (cells.map .int), .int 0, .int 0, .int (877 + 5 * (ns.length : Int)), .int 0]] := by
    refine ⟨⟨cells, 0, 0, 877 + 5 * (ns.length : Int), 0⟩, rfl, ?_, Int.le_refl _, ⟨Int.le_refl _, small_bits (i := 0) (by decide)⟩, by simp; omega, by simp⟩
    intro x hx
    rw [hc] at hx
    obtain ⟨z, hz, rfl⟩ := List.mem_map.mp hx
    exact ⟨by omega, intBits_natAbs_le (hb z hz)⟩
  have m3 : ∀ st, mk_League [.int 3, .tuple [.tuple [.int 0, .int 1], .tuple [.int 0, .int 2], .tuple [.int 1, .int 2]]] st = .ok (lea 3 (tE gs3)) st := fun st => v_League (t := 3) (gs := gs3) (by omega) (by omega) (by decide) gs3_ok st
  have B1 : Bst (won gs3 [some false, some true, some false]) (List.range 3) (1, [0, 1, 2]) := bst_by (by decide +kernel) (by decide +kernel) (by decide +kernel)
  have B2 : Bst (won gs3 [some true, none, none]) (List.range 3) (0, [1, 0, 2]) := bst_by (by decide +kernel) (by decide +kernel) (by decide +kernel)
  have s1 : ∀ st, m_fewest_upsets [lea 3 (tE gs3), .tuple [.int 0, .int 1, .int 0]] st = .ok (.int 1) st := fun st => v_fewest_upsets 3 (gs := gs3) (rs := [some false, some true, some false]) rfl (by decide) (by omega) B1 st
  have s2 : ∀ st, m_best_order [lea 3 (tE gs3), .tuple [.int 0, .int 1, .int 0]] st = .ok (.tuple [.int 0, .int 1, .int 2]) st := fun st => v_best_order 3 (gs := gs3) (rs := [some false, some true, some false]) rfl (by decide) (by omega) B1 st
  have s3 : ∀ st, m_upsets [lea 3 (tE gs3), .tuple [.int 0, .int 1, .int 0], .tuple [.int 0, .int 1, .int 2]] st = .ok (.tuple [.int 1]) st := fun st => by
    have := v_upsets 3 gs3_ok (rs := [some false, some true, some false]) rfl (by decide) (by omega) (line := [0, 1, 2]) (List.Perm.refl _) st
    rw [show upL gs3 [some false, some true, some false] [0, 1, 2] = [1] by decide +kernel] at this
    exact this
  have s4 : ∀ st, m_best_order [lea 3 (tE gs3), .tuple [.int 1, .none, .none]] st = .ok (.tuple [.int 1, .int 0, .int 2]) st := fun st => v_best_order 3 (gs := gs3) (rs := [some true, none, none]) rfl (by decide) (by omega) B2 st
  have n1 : neD (.tuple [.int 0, .int 1, .int 2]) (.tuple [.int 0, .int 1, .int 2]) = some (.bool false) := neD_s (α := Nat) (by decide) [0, 1, 2]
  have n2 : neD (.tuple [.int 1]) (.tuple [.int 1]) = some (.bool false) := neD_s (α := Nat) (by decide) [1]
  have n3 : neD (.tuple [.int 1, .int 0, .int 2]) (.tuple [.int 1, .int 0, .int 2]) = some (.bool false) := neD_s (α := Nat) (by decide) [1, 0, 2]
  have hr : rng1Of [.int 4] = some ((List.range 4).map enc) := rng1_n 4 (by omega)
  have key : ∀ a0 a2 : PyData, ∃ st' s3 s4 s5 s6, forGo (gN 3) b1_law ((List.range 4).map enc) [some (a0, false), some (loc 0, false), some (a2, false), none, none, none, none] [[.list (cells.map .int), .int 0, .int 0, .int (877 + 5 * (ns.length : Int)), .int 0]] = .nx [some (a0, false), some (loc 0, false), some (a2, false), s3, s4, s5, s6] st' := by
    intro a0 a2
    refine for_t (R := fun r => ∃ st' s3 s4 s5 s6, r = .nx [some (a0, false), some (loc 0, false), some (a2, false), s3, s4, s5, s6] st') enc
      (fun done ρ st' => ∃ (s3 s4 s5 s6 : Ev.Slot), ρ = [some (a0, false), some (loc 0, false), some (a2, false), s3, s4, s5, s6] ∧ Good (2000 * done.length) st')
      (List.range 4) ⟨none, none, none, none, rfl, gd⟩ ?_ ?_
    · rintro done x rest ρ st1 ee ⟨s3, s4, s5, s6, rfl, g1⟩
      have hdn : done.length < 4 := by
        have := congrArg List.length ee
        simp at this
        omega
      obtain ⟨y, st2, f1, hy, g2⟩ := v_any (by omega) g1 (ds := [.int 0, .int 3, .int 8]) (by simp) (by simp)
      obtain ⟨sh, rfl⟩ : ∃ sh : Nat, y = .int sh := by
        simp only [List.mem_cons, List.not_mem_nil, or_false] at hy
        rcases hy with rfl | rfl | rfl
        · exact ⟨0, rfl⟩
        · exact ⟨3, rfl⟩
        · exact ⟨8, rfl⟩
      obtain ⟨t, gs, rs, st3, f2, t1, t5, go, gl, ge, g3⟩ := v_law_league (by omega) g2 9 sh (by omega)
      have f2' : m__law_league [loc 0, .int 9, .int sh] st2 = .ok (.tuple [.int t, tE gs, tE rs]) st3 := f2
      have L : Lg t gs rs := ⟨t1, by omega, by omega, go, ge⟩
      obtain ⟨st4, f3, g4⟩ := v_law_league_right (by omega) g3 L (by omega)
      have f4 := v_League t1 (by omega) (by omega) go st4
      obtain ⟨st5, f5, g5⟩ := v_law_refused_right (by omega) g4 L
      refine ⟨_, rfl, ?_⟩
      have g5' : Good (2000 * (done ++ [x]).length) st5 := g5.mono (by simp; omega)
      simp only [tE_eq] at f2' f3 f4 f5
      have nl : noLs (gs.map enc) = true := noLs_map gs
      have nr : noLs (rs.map enc) = true := noLs_map rs
      simp [b1_law, f1, f2', f3, f4, f5, nl, nr, -List.map_map]
      simpa using g5'
    · rintro ρ st' ⟨s3, s4, s5, s6, rfl, _⟩
      exact ⟨st', s3, s4, s5, s6, rfl⟩
  obtain ⟨st', s3', s4', s5', s6', k⟩ := key (frzl (ns.map .int)) (lea 3 (tE gs3))
  refine ⟨false, st', ?_⟩
  have nl : noLs (cells.map PyData.int) = true := noLs_map cells
  generalize (List.range 4).map enc = four at hr k
  simp only [tE_eq] at m3 s1 s2 s3 s4 k
  simp [sHand, g_law, k_law, N_law, e1, m3, s1, s2, s3, s4, n1, n2, n3, hr, k, nl, -List.map_map]
end Row
end

section
set_option maxRecDepth 100000
set_option maxHeartbeats 0
namespace Row
open PySem PySem.Spec PyProof.Rows L2 Ev

def d_is_integer : He.DefD := ⟨("is_integer", none), "is_integer", "is_integer", defArgs s_is_integer, defBody s_is_integer, defScope s_is_integer, [], []⟩
def d_is_within : He.DefD := ⟨("is_within", none), "is_within", "is_within", defArgs s_is_within, defBody s_is_within, defScope s_is_within, [], []⟩
def d_are_below : He.DefD := ⟨("are_below", none), "are_below", "are_below", defArgs s_are_below, defBody s_are_below, defScope s_are_below, [], []⟩
def d_are_unlike : He.DefD := ⟨("are_unlike", none), "are_unlike", "are_unlike", defArgs s_are_unlike, defBody s_are_unlike, defScope s_are_unlike, [], []⟩
def d_is_order_of : He.DefD := ⟨("is_order_of", none), "is_order_of", "is_order_of", defArgs s_is_order_of, defBody s_is_order_of, defScope s_is_order_of, [], []⟩
def d_row_of : He.DefD := ⟨("row_of", none), "row_of", "row_of", defArgs s_row_of, defBody s_row_of, defScope s_row_of, [], []⟩
def d_is_pair_of : He.DefD := ⟨("is_pair_of", none), "is_pair_of", "is_pair_of", defArgs s_is_pair_of, defBody s_is_pair_of, defScope s_is_pair_of, [], []⟩
def d_check_league : He.DefD := ⟨("check_league", none), "check_league", "check_league", defArgs s_check_league, defBody s_check_league, defScope s_check_league, [], []⟩
def d_everybody : He.DefD := ⟨("everybody", none), "everybody", "everybody", defArgs s_everybody, defBody s_everybody, defScope s_everybody, [], []⟩
def d_is_side : He.DefD := ⟨("is_side", none), "is_side", "is_side", defArgs s_is_side, defBody s_is_side, defScope s_is_side, [], []⟩
def d_are_results : He.DefD := ⟨("are_results", none), "are_results", "are_results", defArgs s_are_results, defBody s_are_results, defScope s_are_results, [], []⟩
def d_check_results : He.DefD := ⟨("check_results", none), "check_results", "check_results", defArgs s_check_results, defBody s_check_results, defScope s_check_results, [], []⟩
def d_winner_of : He.DefD := ⟨("winner_of", none), "winner_of", "winner_of", defArgs s_winner_of, defBody s_winner_of, defScope s_winner_of, [], []⟩
def d_loser_of : He.DefD := ⟨("loser_of", none), "loser_of", "loser_of", defArgs s_loser_of, defBody s_loser_of, defScope s_loser_of, [], []⟩
def d_decided_of : He.DefD := ⟨("decided_of", none), "decided_of", "decided_of", defArgs s_decided_of, defBody s_decided_of, defScope s_decided_of, [], []⟩
def d_check_order : He.DefD := ⟨("check_order", none), "check_order", "check_order", defArgs s_check_order, defBody s_check_order, defScope s_check_order, [], []⟩
def d_upsets_of : He.DefD := ⟨("upsets_of", none), "upsets_of", "upsets_of", defArgs s_upsets_of, defBody s_upsets_of, defScope s_upsets_of, [], []⟩
def d_upsets : He.DefD := ⟨("upsets", none), "upsets", "upsets", defArgs s_upsets, defBody s_upsets, defScope s_upsets, [], []⟩
def d_losses_to : He.DefD := ⟨("losses_to", none), "losses_to", "losses_to", defArgs s_losses_to, defBody s_losses_to, defScope s_losses_to, [], []⟩
def d_best_orders : He.DefD := ⟨("best_orders", none), "best_orders", "best_orders", defArgs s_best_orders, defBody s_best_orders, defScope s_best_orders, [], []⟩
def d_best_of : He.DefD := ⟨("best_of", none), "best_of", "best_of", defArgs s_best_of, defBody s_best_of, defScope s_best_of, [], []⟩
def d_fewest_upsets : He.DefD := ⟨("fewest_upsets", none), "fewest_upsets", "fewest_upsets", defArgs s_fewest_upsets, defBody s_fewest_upsets, defScope s_fewest_upsets, [], []⟩
def d_best_order : He.DefD := ⟨("best_order", none), "best_order", "best_order", defArgs s_best_order, defBody s_best_order, defScope s_best_order, [], []⟩
def d_is_best_order : He.DefD := ⟨("is_best_order", none), "is_best_order", "is_best_order", defArgs s_is_best_order, defBody s_is_best_order, defScope s_is_best_order, [], []⟩
def d__law_hand : He.DefD := ⟨("_law_hand", none), "_law_hand", "_law_hand", defArgs s__law_hand, defBody s__law_hand, defScope s__law_hand, [], []⟩
def d__law_draw : He.DefD := ⟨("_law_draw", none), "_law_draw", "_law_draw", defArgs s__law_draw, defBody s__law_draw, defScope s__law_draw, [], []⟩
def d__law_any : He.DefD := ⟨("_law_any", none), "_law_any", "_law_any", defArgs s__law_any, defBody s__law_any, defScope s__law_any, [], []⟩
def d__law_league : He.DefD := ⟨("_law_league", none), "_law_league", "_law_league", defArgs s__law_league, defBody s__law_league, defScope s__law_league, [], []⟩
def d__law_orders : He.DefD := ⟨("_law_orders", none), "_law_orders", "_law_orders", defArgs s__law_orders, defBody s__law_orders, defScope s__law_orders, [], []⟩
def d__law_upsets : He.DefD := ⟨("_law_upsets", none), "_law_upsets", "_law_upsets", defArgs s__law_upsets, defBody s__law_upsets, defScope s__law_upsets, [], []⟩
def d__law_bent : He.DefD := ⟨("_law_bent", none), "_law_bent", "_law_bent", defArgs s__law_bent, defBody s__law_bent, defScope s__law_bent, [], []⟩
def d__law_word : He.DefD := ⟨("_law_word", none), "_law_word", "_law_word", defArgs s__law_word, defBody s__law_word, defScope s__law_word, [], []⟩
def d__law_more_right : He.DefD := ⟨("_law_more_right", none), "_law_more_right", "_law_more_right", defArgs s__law_more_right, defBody s__law_more_right, defScope s__law_more_right, [], []⟩
def d__law_league_right : He.DefD := ⟨("_law_league_right", none), "_law_league_right", "_law_league_right", defArgs s__law_league_right, defBody s__law_league_right, defScope s__law_league_right, [], []⟩
def d__law_refused_right : He.DefD := ⟨("_law_refused_right", none), "_law_refused_right", "_law_refused_right", defArgs s__law_refused_right, defBody s__law_refused_right, defScope s__law_refused_right, [], []⟩
def d_law : He.DefD := ⟨("law", none), "law", "law", defArgs s_law, defBody s_law, defScope s_law, [], []⟩
def d_League_init : He.DefD := ⟨("League", some "__init__"), "__init__", "League.__init__", defArgs s_League_init, defBody s_League_init, defScope s_League_init, [], []⟩
def fn : List He.DefD := [d_is_integer, d_is_within, d_are_below, d_are_unlike, d_is_order_of, d_row_of, d_is_pair_of, d_check_league, d_everybody, d_is_side, d_are_results, d_check_results, d_winner_of, d_loser_of, d_decided_of, d_check_order, d_upsets_of, d_upsets, d_losses_to, d_best_orders, d_best_of, d_fewest_upsets, d_best_order, d_is_best_order, d__law_hand, d__law_draw, d__law_any, d__law_league, d__law_orders, d__law_upsets, d__law_bent, d__law_word, d__law_more_right, d__law_league_right, d__law_refused_right, d_law, d_League_init]
def fa : List He.Fa := [.glo "is_integer", .glo "is_within", .glo "are_below", .glo "are_unlike", .glo "is_order_of", .glo "row_of", .glo "is_pair_of", .glo "check_league", .glo "everybody", .glo "is_side", .glo "are_results", .glo "check_results", .glo "winner_of", .glo "loser_of", .glo "decided_of", .glo "check_order", .glo "upsets_of", .glo "upsets", .glo "losses_to", .glo "best_orders", .glo "best_of", .glo "fewest_upsets", .glo "best_order", .glo "is_best_order", .glo "_law_hand", .glo "_law_draw", .glo "_law_any", .glo "_law_league", .glo "_law_orders", .glo "_law_upsets", .glo "_law_bent", .glo "_law_word", .glo "_law_more_right", .glo "_law_league_right", .glo "_law_refused_right", .glo "law", .free "ValueError", .free "abs", .free "all", .free "bool", .free "enumerate", .free "int", .free "isinstance", .free "len", .free "list", .free "max", .free "min", .free "range", .free "repr", .free "set", .free "sorted", .free "tuple", .free "zip", .int "MOST_GAMES" 24, .int "MOST_TEAMS" 8, .glo "League", .cls "League", .noat "League" "teams", .noat "League" "games", .mkr "League", .glo "GameFault", .glo "BadOrder", .exc "BadOrder", .glo "BadResults", .exc "BadResults", .glo "NoLeague", .exc "NoLeague"]
def fl0 : List Str := ["is_integer", "is_within", "are_below", "are_unlike", "is_order_of", "row_of", "is_pair_of", "check_league", "everybody", "is_side", "are_results", "check_results", "winner_of", "loser_of", "decided_of", "check_order", "upsets_of", "upsets", "losses_to", "best_orders"]
def fl1 : List Str := ["best_of", "fewest_upsets", "best_order", "is_best_order", "_law_hand", "_law_draw", "_law_any", "_law_league", "_law_orders", "_law_upsets", "_law_bent", "_law_league_right", "_law_more_right", "_law_word", "_law_refused_right", "law"]
def fnm : Nat → Str := fun j => (fl0 ++ fl1).getD j ""
def xn : Nat → Str := fun j => (["GameFault", "BadLeague", "BadOrder", "BadResults", "NoLeague", "League"] : List Str).getD j ""
def tf : List He.Defn := [("_law_league_right", none), ("_law_refused_right", none)]
def ts : List He.Tab := []
def ex (K : PySem.W.Frag) : Bool := leaB K (He.ga K "League") && (exB K xn exl 0 && decide (tf.map fun p => (He.cT K p).2).Nodup)
abbrev R : PySem.W.OpenRow := PySem.W.OpenLaw.row PySem.Challenge.rw_lastgames_k79_whole_upsets_of_orders
abbrev hk : PySem.W.Hook := He.hookX 5 fa fn ts tf ex
def ob (s : PySem.W.SharedT) : He.AlX := He.obsX 5 fa fn ts tf ex (HandSHeadRun.getT s)
theorem ob_eq (s : PySem.W.SharedT) : ob s = hk.obs s.abs := He.obsX_eq (HandSHeadRun.getT_eq s)
def ls0 : List PySem.Str := ["is_integer", "is_within", "are_below", "are_unlike", "is_order_of", "row_of", "GameFault", "BadLeague", "BadOrder", "BadResults", "NoLeague", "MOST_TEAMS", "MOST_GAMES", "is_pair_of", "League", "check_league", "everybody", "is_side", "are_results", "check_results", "winner_of", "loser_of", "decided_of", "check_order", "upsets_of", "upsets", "losses_to", "best_orders", "best_of", "fewest_upsets"]
def ls1 : List PySem.Str := ["best_order", "is_best_order", "_law_hand", "_law_draw", "_law_any", "_law_league", "_law_orders", "_law_upsets", "_law_bent", "_law_league_right", "_law_more_right", "_law_word", "_law_refused_right"]
def loose : List PySem.Str := ls0 ++ ls1
theorem run (w : World) : HandSHeadRun.RunEq R (PySem.W.view R.prog [49]) hk ob 3000 loose w := by
  intro os
  kernel_rfl
def gd (w : World) (K : PySem.W.Frag) : Gd := ⟨K, He.ga K "League", fun j => He.ga K (fnm j), PySem.Challenge.rw_lastgames_k79_whole_upsets_of_orders.prog, w⟩
def tT (K : PySem.W.Frag) : List (Addr × Str) := [((He.cT K ("_law_league_right", none)).2, (("_law_league_right" : Str) ++ ".<locals>." ++ "<lambda>")), ((He.cT K ("_law_refused_right", none)).2, (("_law_refused_right" : Str) ++ ".<locals>." ++ "<lambda>"))]
theorem wd_of {w : World} {K : PySem.W.Frag} {mg : Str → Option Value} {base h : Heap} {fd0 : FuncData} (X : K.In h) (G : h.Ns mainGlobals mg) (c : He.SaysX fa fn ts tf ex w h K) (tb : ∀ p ∈ tf, LamX.TabB base mg (He.cT K p).1 (He.cT K p).2) :
    Wd PySem.Challenge.rw_lastgames_k79_whole_upsets_of_orders.prog w K mg base (gd w K) (xcOf K xn) (tT K) (fun j => fdOf K fd0 (He.ga K (fnm j))) (He.ma K (He.ga K "League") "__init__") (fdOf K fd0 (He.ma K (He.ga K "League") "__init__")) (fun j => (He.cT K (fnm j, none)).1) (fun j => (He.cT K (fnm j, none)).2) where
  hK := rfl
  hP := ⟨rfl, rfl⟩
  lea := leaB_ok (He.cls_ok (c.t.d.fact 56 rfl)) (He.noat_ok (c.t.d.fact 57 rfl)) (He.noat_ok (c.t.d.fact 58 rfl)) (He.ba c.more).1
  g_League := He.glo_ok X G (c.t.d.fact 55 rfl)
  m_League := He.mkr_ok (c.t.d.fact 59 rfl)
  xo := exB_ok (He.ba (He.ba c.more).2).1
  g_GameFault := He.glo_ok X G (c.t.d.fact 60 rfl)
  d_League_init := fdOf_eq (c.t.d.def_ 36 (d := d_League_init) rfl).choose_spec
  free_ValueError := He.free_ok X G (c.t.d.fact 36 rfl)
  free_abs := He.free_ok X G (c.t.d.fact 37 rfl)
  free_all := He.free_ok X G (c.t.d.fact 38 rfl)
  free_bool := He.free_ok X G (c.t.d.fact 39 rfl)
  free_enumerate := He.free_ok X G (c.t.d.fact 40 rfl)
  free_int := He.free_ok X G (c.t.d.fact 41 rfl)
  free_isinstance := He.free_ok X G (c.t.d.fact 42 rfl)
  free_len := He.free_ok X G (c.t.d.fact 43 rfl)
  free_list := He.free_ok X G (c.t.d.fact 44 rfl)
  free_max := He.free_ok X G (c.t.d.fact 45 rfl)
  free_min := He.free_ok X G (c.t.d.fact 46 rfl)
  free_range := He.free_ok X G (c.t.d.fact 47 rfl)
  free_repr := He.free_ok X G (c.t.d.fact 48 rfl)
  free_set := He.free_ok X G (c.t.d.fact 49 rfl)
  free_sorted := He.free_ok X G (c.t.d.fact 50 rfl)
  free_tuple := He.free_ok X G (c.t.d.fact 51 rfl)
  free_zip := He.free_ok X G (c.t.d.fact 52 rfl)
  c_MOST_GAMES := He.int_ok X G (c.t.d.fact 53 rfl)
  c_MOST_TEAMS := He.int_ok X G (c.t.d.fact 54 rfl)
  g_BadOrder := He.glo_ok X G (c.t.d.fact 61 rfl)
  x_BadOrder := (He.exc_ok (c.t.d.fact 62 rfl)).1
  k_BadOrder := (He.exc_ok (c.t.d.fact 62 rfl)).2.1
  s_BadOrder := (He.exc_ok (c.t.d.fact 62 rfl)).2.2.1
  t_BadOrder := (He.exc_ok (c.t.d.fact 62 rfl)).2.2.2
  g_BadResults := He.glo_ok X G (c.t.d.fact 63 rfl)
  x_BadResults := (He.exc_ok (c.t.d.fact 64 rfl)).1
  k_BadResults := (He.exc_ok (c.t.d.fact 64 rfl)).2.1
  s_BadResults := (He.exc_ok (c.t.d.fact 64 rfl)).2.2.1
  t_BadResults := (He.exc_ok (c.t.d.fact 64 rfl)).2.2.2
  g_NoLeague := He.glo_ok X G (c.t.d.fact 65 rfl)
  x_NoLeague := (He.exc_ok (c.t.d.fact 66 rfl)).1
  k_NoLeague := (He.exc_ok (c.t.d.fact 66 rfl)).2.1
  s_NoLeague := (He.exc_ok (c.t.d.fact 66 rfl)).2.2.1
  t_NoLeague := (He.exc_ok (c.t.d.fact 66 rfl)).2.2.2
  g_is_integer := He.glo_ok X G (c.t.d.fact 0 rfl)
  d_is_integer := fdOf_eq (c.t.d.def_ 0 (d := d_is_integer) rfl).choose_spec
  g_is_within := He.glo_ok X G (c.t.d.fact 1 rfl)
  d_is_within := fdOf_eq (c.t.d.def_ 1 (d := d_is_within) rfl).choose_spec
  g_are_below := He.glo_ok X G (c.t.d.fact 2 rfl)
  d_are_below := fdOf_eq (c.t.d.def_ 2 (d := d_are_below) rfl).choose_spec
  g_are_unlike := He.glo_ok X G (c.t.d.fact 3 rfl)
  d_are_unlike := fdOf_eq (c.t.d.def_ 3 (d := d_are_unlike) rfl).choose_spec
  g_is_order_of := He.glo_ok X G (c.t.d.fact 4 rfl)
  d_is_order_of := fdOf_eq (c.t.d.def_ 4 (d := d_is_order_of) rfl).choose_spec
  g_row_of := He.glo_ok X G (c.t.d.fact 5 rfl)
  d_row_of := fdOf_eq (c.t.d.def_ 5 (d := d_row_of) rfl).choose_spec
  g_is_pair_of := He.glo_ok X G (c.t.d.fact 6 rfl)
  d_is_pair_of := fdOf_eq (c.t.d.def_ 6 (d := d_is_pair_of) rfl).choose_spec
  g_check_league := He.glo_ok X G (c.t.d.fact 7 rfl)
  d_check_league := fdOf_eq (c.t.d.def_ 7 (d := d_check_league) rfl).choose_spec
  g_everybody := He.glo_ok X G (c.t.d.fact 8 rfl)
  d_everybody := fdOf_eq (c.t.d.def_ 8 (d := d_everybody) rfl).choose_spec
  g_is_side := He.glo_ok X G (c.t.d.fact 9 rfl)
  d_is_side := fdOf_eq (c.t.d.def_ 9 (d := d_is_side) rfl).choose_spec
  g_are_results := He.glo_ok X G (c.t.d.fact 10 rfl)
  d_are_results := fdOf_eq (c.t.d.def_ 10 (d := d_are_results) rfl).choose_spec
  g_check_results := He.glo_ok X G (c.t.d.fact 11 rfl)
  d_check_results := fdOf_eq (c.t.d.def_ 11 (d := d_check_results) rfl).choose_spec
  g_winner_of := He.glo_ok X G (c.t.d.fact 12 rfl)
  d_winner_of := fdOf_eq (c.t.d.def_ 12 (d := d_winner_of) rfl).choose_spec
  g_loser_of := He.glo_ok X G (c.t.d.fact 13 rfl)
  d_loser_of := fdOf_eq (c.t.d.def_ 13 (d := d_loser_of) rfl).choose_spec
  g_decided_of := He.glo_ok X G (c.t.d.fact 14 rfl)
  d_decided_of := fdOf_eq (c.t.d.def_ 14 (d := d_decided_of) rfl).choose_spec
  g_check_order := He.glo_ok X G (c.t.d.fact 15 rfl)
  d_check_order := fdOf_eq (c.t.d.def_ 15 (d := d_check_order) rfl).choose_spec
  g_upsets_of := He.glo_ok X G (c.t.d.fact 16 rfl)
  d_upsets_of := fdOf_eq (c.t.d.def_ 16 (d := d_upsets_of) rfl).choose_spec
  g_upsets := He.glo_ok X G (c.t.d.fact 17 rfl)
  d_upsets := fdOf_eq (c.t.d.def_ 17 (d := d_upsets) rfl).choose_spec
  g_losses_to := He.glo_ok X G (c.t.d.fact 18 rfl)
  d_losses_to := fdOf_eq (c.t.d.def_ 18 (d := d_losses_to) rfl).choose_spec
  g_best_orders := He.glo_ok X G (c.t.d.fact 19 rfl)
  d_best_orders := fdOf_eq (c.t.d.def_ 19 (d := d_best_orders) rfl).choose_spec
  g_best_of := He.glo_ok X G (c.t.d.fact 20 rfl)
  d_best_of := fdOf_eq (c.t.d.def_ 20 (d := d_best_of) rfl).choose_spec
  g_fewest_upsets := He.glo_ok X G (c.t.d.fact 21 rfl)
  d_fewest_upsets := fdOf_eq (c.t.d.def_ 21 (d := d_fewest_upsets) rfl).choose_spec
  g_best_order := He.glo_ok X G (c.t.d.fact 22 rfl)
  d_best_order := fdOf_eq (c.t.d.def_ 22 (d := d_best_order) rfl).choose_spec
  g_is_best_order := He.glo_ok X G (c.t.d.fact 23 rfl)
  d_is_best_order := fdOf_eq (c.t.d.def_ 23 (d := d_is_best_order) rfl).choose_spec
  g__law_hand := He.glo_ok X G (c.t.d.fact 24 rfl)
  d__law_hand := fdOf_eq (c.t.d.def_ 24 (d := d__law_hand) rfl).choose_spec
  g__law_draw := He.glo_ok X G (c.t.d.fact 25 rfl)
  d__law_draw := fdOf_eq (c.t.d.def_ 25 (d := d__law_draw) rfl).choose_spec
  g__law_any := He.glo_ok X G (c.t.d.fact 26 rfl)
  d__law_any := fdOf_eq (c.t.d.def_ 26 (d := d__law_any) rfl).choose_spec
  g__law_league := He.glo_ok X G (c.t.d.fact 27 rfl)
  d__law_league := fdOf_eq (c.t.d.def_ 27 (d := d__law_league) rfl).choose_spec
  g__law_orders := He.glo_ok X G (c.t.d.fact 28 rfl)
  d__law_orders := fdOf_eq (c.t.d.def_ 28 (d := d__law_orders) rfl).choose_spec
  g__law_upsets := He.glo_ok X G (c.t.d.fact 29 rfl)
  d__law_upsets := fdOf_eq (c.t.d.def_ 29 (d := d__law_upsets) rfl).choose_spec
  g__law_bent := He.glo_ok X G (c.t.d.fact 30 rfl)
  d__law_bent := fdOf_eq (c.t.d.def_ 30 (d := d__law_bent) rfl).choose_spec
  g__law_word := He.glo_ok X G (c.t.d.fact 31 rfl)
  d__law_word := fdOf_eq (c.t.d.def_ 31 (d := d__law_word) rfl).choose_spec
  g__law_more_right := He.glo_ok X G (c.t.d.fact 32 rfl)
  d__law_more_right := fdOf_eq (c.t.d.def_ 32 (d := d__law_more_right) rfl).choose_spec
  cc__law_league_right := codeAt_of (p := ("_law_league_right", none)) (c.t.d.def_ 33 (d := d__law_league_right) rfl).choose_spec
  tb__law_league_right := tb ("_law_league_right", none) List.mem_cons_self
  tm__law_league_right := List.mem_cons_self
  tu__law_league_right := tuX 0 rfl rfl (of_decide_eq_true (He.ba (He.ba c.more).2).2)
  g__law_league_right := He.glo_ok X G (c.t.d.fact 33 rfl)
  d__law_league_right := fdOf_eq (c.t.d.def_ 33 (d := d__law_league_right) rfl).choose_spec
  cc__law_refused_right := codeAt_of (p := ("_law_refused_right", none)) (c.t.d.def_ 34 (d := d__law_refused_right) rfl).choose_spec
  tb__law_refused_right := tb ("_law_refused_right", none) (List.mem_cons_of_mem _ List.mem_cons_self)
  tm__law_refused_right := (List.mem_cons_of_mem _ List.mem_cons_self)
  tu__law_refused_right := tuX 1 rfl rfl (of_decide_eq_true (He.ba (He.ba c.more).2).2)
  g__law_refused_right := He.glo_ok X G (c.t.d.fact 34 rfl)
  d__law_refused_right := fdOf_eq (c.t.d.def_ 34 (d := d__law_refused_right) rfl).choose_spec
  g_law := He.glo_ok X G (c.t.d.fact 35 rfl)
  d_law := fdOf_eq (c.t.d.def_ 35 (d := d_law) rfl).choose_spec
theorem facts {w : World} {K : PySem.W.Frag} {h : Heap} {mg : Str → Option Value} {f : Addr} (X : K.In h) (G : h.Ns mainGlobals mg) (hfa : mg ("law" : Str) = some (.ref f)) (c : He.SaysX fa fn ts tf ex w h K) :
    Ev.LawAtG PySem.Challenge.rw_lastgames_k79_whole_upsets_of_orders w K (L2.CX PySem.Challenge.rw_lastgames_k79_whole_upsets_of_orders.prog w) 11 63 "script" mg f h := by
  obtain ⟨fd0, F0⟩ := c.t.d.def_ 35 (d := d_law) rfl
  have e := hfa.symm.trans (He.glo_ok X G (c.t.d.fact 35 rfl))
  cases e
  have b := FunD.bindsA (ps := ["script"]) (fdOf_eq (fd0 := fd0) F0) fun _ _ _ _ _ _ us hl => match us, hl with | [_], _ => rfl
  refine ⟨fdOf K fd0 (He.ga K "law"), tf.map (He.cT K), spLaw K (tT K), fun p hp => ?_, fun p hp => ?_, fun p hp => ?_, fun s v => b s [v] rfl, fun H a ns hl hbits ht hS => ⟨a, ns, rfl, hS, tabs_of (fun p hp => ?_) ht, hl, hbits, fun _ => rfl⟩, fun base Xb Gb tb => ok_law (wd_of X G c fun p hp => tb _ (List.mem_map_of_mem hp)) law_true⟩
  · obtain ⟨q, hq, rfl⟩ := List.mem_map.mp hp
    exact c.empty q hq
  · obtain ⟨q, hq, rfl⟩ := List.mem_map.mp hp
    exact c.out q hq
  · obtain ⟨q, hq, rfl⟩ := List.mem_map.mp hp
    exact PySem.W.codeHd_of_K X (c.hd q hq)
  · have key : ((tT K).map (·.1)) = (tf.map (He.cT K)).map (·.2) := rfl
    have m : p.1 ∈ (tf.map (He.cT K)).map (·.2) := by
      rw [← key]
      exact List.mem_map_of_mem hp
    obtain ⟨q, hq, e⟩ := List.mem_map.mp m
    exact ⟨q, hq, e⟩
end Row
open PySem PySem.W PySem.Calls PyProof.Rows
theorem PySem.Challenge.cw_lastgames_k79_whole_upsets_of_orders_holds : PySem.Challenge.rw_lastgames_k79_whole_upsets_of_orders.Holds := by
  w_on; o_law
  refine HandSHeadRun.head_any (r := OpenLaw.row PySem.Challenge.rw_lastgames_k79_whole_upsets_of_orders) (q := view (OpenLaw.row PySem.Challenge.rw_lastgames_k79_whole_upsets_of_orders).prog [49]) (H := Row.hk) (ob := Row.ob) (M := 3000) (loose := Row.loose) (d := HandSHeadRun.topDef (OpenLaw.row PySem.Challenge.rw_lastgames_k79_whole_upsets_of_orders).prog 49) (kwd := []) Row.ob_eq
    (by kernel_rfl) (fun s => by kernel_rfl) Row.run (by kernel_rfl) (by kernel_rfl) (by kernel_rfl) (by rfl) (by first | assumption | decide +kernel) (by decide +kernel) ⟨rfl, rfl, rfl, rfl, rfl, by decide +kernel⟩ ?hw ?hc
  case hw => w_witness2
  case hc =>
    refine Ev.walk_G (l := PySem.Challenge.rw_lastgames_k79_whole_upsets_of_orders) (n := 63) (k := 11) (x := "script") (CX := L2.CX PySem.Challenge.rw_lastgames_k79_whole_upsets_of_orders.prog) rfl (by decide) (by kernel_rfl) ⟨rfl, by decide, by decide⟩ ?F (fun _ _ _ _ _ ⟨_, _, _, _, _, _, _, _, _, _, _, _, z⟩ => z)
    intro w mg fa h Y G hmg0
    obtain ⟨K, KX, c⟩ := Y
    have hmg : mg ("law" : PySem.Str) = some (.ref fa) := by
      have e : (HandSHeadRun.topDef (OpenLaw.row PySem.Challenge.rw_lastgames_k79_whole_upsets_of_orders).prog 49).name = ("law" : PySem.Str) := by kernel_rfl
      rw [← e]
      exact hmg0
    exact ⟨K, KX, Row.facts KX G hmg c⟩
end
