import PyProof.Rows.All
import Wide.All
import OpenK.AllK
import Wide.FinOn
import HandS.ForMost
import HandS.ForExc
import HandS.Walk
import HandS.Lambda
import KE.KDictKeyed
import HandS.EndBits
import HandS.NoneIn
import HandS.Wide
import HandS.Style
import HandS.TupAny
import HandS.TupMul
import HandS.Deep
import HandS.IsInst
import KE.SortData
import KE.DataMinMax
import HandS.Rev
import HandS.Zip
import KE.GoesEnum
import HandS.RaiseMore
import HandS.WideMore
import HandS.WideBits
import HandS.Conv
import HandS.ExcInit
import KE.KExcIs
import KE.KTryMore
import KE.RegKIsAll
import KE.RegKTryMore
import HandS.More
import HandS.Flow
import HandS.Strs
import PyProof.Rows.SetFrom
import KE.KDictZip
import HandS.Set
import HandS.SetFor
import HandS.DictComp
import HandS.Sort
import HandS.Defaults
import HandS.Small
import HandS.SortKw
import PyProof.FactsAll.bool_2
import KE.KDictDisplayH
import KE.KDictItemsList
import KE.DataCmp
import KE.KDictLaws
import KE.SortKeyHeap
import HandS.FStr
import OpenK.KOps
import HandS.Finally
import HandS.OwnEq
import HandS.ExcValue
import KE.KDictPairs
import HandS.DictEq
import PySem.Challenge.RW_sortdoors_k13_whole_all_rows_of_small_ho
set_option Elab.async false
set_option linter.all false
set_option maxRecDepth 100000
set_option maxHeartbeats 4000000
namespace Y
open PySem L2
/-- data: None, truth, number, text, tuple, list, dict (keys, values), an object of a class (fields by name) -/
inductive Dt where
  | n | b (x : Bool) | i (x : Int) | s (x : Str) | t (xs : List Dt) | l (xs : List Dt)
  | m (ks vs : List Dt) | o (c : Str) (ns : List Str) (fs : List Dt)
  /-- a list that nobody may change (the script) -/
  | z (xs : List Dt)
  /-- an exception that was caught -/
  | x (c : Str) (ns : List Str) (fs : List Dt)
  /-- a def of the program, by its name -/
  | f (x : Str)
  /-- a dict whose keys are tuples of numbers and of such tuples -/
  | k (ks vs : List Dt)
/-- who else may hold the lists within: c anybody, t nobody the list itself, a nobody any -/
inductive Md where
  | c | t | a
  deriving DecidableEq
abbrev Vl := Dt × Md
abbrev Ev := List (Option Vl)
inductive Ou (α : Type) where
  | ok (x : α) (r : Ev) | ex (c : Str) (fs : List (Str × Dt)) (r : Ev) | no
mutual
def Dt.flat : Dt → Bool
  | .t xs => flatL xs
  | .z xs => flatL xs
  | .l _ => false
  | .m _ _ => false
  | .o _ _ _ => false
  | .x _ _ _ => false
  | .k _ _ => false
  | _ => true
def flatL : List Dt → Bool
  | [] => true
  | x :: xs => x.flat && flatL xs
end
/-- a list that nobody may change -/
def SqF (K : PySem.W.Frag) (H : Hp) (a : Addr) (vs : List V) : Prop := (∃ o, H a = some (.frz o (.lst vs))) ∨
  ∃ (o : Obj) (its : Array Value) (n : Nat), K.lookup a = some o ∧ o.cls = .type "list" ∧ o.dict = none ∧ o.data = .seq its n ∧ its.size ≤ sizeLine ∧ Vals vs its.toList
theorem SqF.sq {K : PySem.W.Frag} {H : Hp} {a : Addr} {vs : List V} (h : SqF K H a vs) : SqL K H a vs := h.elim (fun ⟨o, z⟩ => .inl (.inr ⟨o, z⟩)) .inr
/-- a key as data -/
def keyD : Key → Dt
  | .inl i => .i i
  | .inr x => .s x
mutual
/-- a tuple of numbers and of such tuples, as a key -/
def keyN : Dt → NestedKey
  | .i x => .num x
  | .t xs => .tup (keyNs xs)
  | _ => .none
def keyNs : List Dt → List NestedKey
  | [] => []
  | x :: xs => keyN x :: keyNs xs
end
mutual
def kyD : Dt → Bool
  | .i _ => true
  | .t xs => kyL xs
  | _ => false
def kyL : List Dt → Bool
  | [] => true
  | x :: xs => kyD x && kyL xs
end
/-- fit to be a key -/
def kyT : Dt → Bool
  | .t xs => kyL xs && decide (NestedKey.depthAll (keyNs xs) ≤ 7)
  | _ => false
mutual
/-- the hash of a key without texts -/
def hsN : NestedKey → Int
  | .none => reduceHash 0xFCA86420
  | .num i => hashInt i
  | .text _ => 0
  | .tup ks => reduceHash (Builtin.Tuple.tupleHashOf (hsNs ks))
def hsNs : List NestedKey → List Int
  | [] => []
  | k :: ks => hsN k :: hsNs ks
end
/-- a dict whose keys are tuples: the keys, where their tuples stand, the values -/
def ktP (a : Addr) (es : List (NestedKey × Addr × V)) : Heap → Prop := fun h => (a == sysModules) = false ∧ es.length ≤ sizeLine ∧ (es.map (·.1)).Nodup ∧
  ∃ (o : Obj) (ents : Array DictEntry) (ep : Nat) (xs : List (NestedKey × Addr × Value)), h.get? a = some o ∧ o.ExactDict ∧ o.data = .dict ents ep ∧ ents.toList = xs.map (fun x => (⟨hsN x.1, .ref x.2.1, x.2.2⟩ : DictEntry)) ∧
    Paired (fun (p : NestedKey × Addr × V) (q : NestedKey × Addr × Value) => p.1 = q.1 ∧ p.2.1 = q.2.1 ∧ RelV p.2.2 q.2.2) es xs
def ktO (a : Addr) (es : List (NestedKey × Addr × V)) : HO := .ext (ktP a es)
/-- what may be changed: lists, dicts, objects -/
def hotO : HO → Prop
  | .lst _ => True
  | .dK _ => True
  | .ins _ _ _ => True
  | .ext φ => ∃ a es, φ = ktP a es
  | _ => False
theorem kt_hot {a : Addr} {es : List (NestedKey × Addr × V)} : hotO (ktO a es) := ⟨a, es, rfl⟩
theorem not_kt {φ : Heap → Prop} {ob : Obj} {n : Nat} (hd : ∀ x y, ob.data ≠ .dict x y) (hφ : φ { objs := Array.replicate n ob }) : ¬ hotO (.ext φ) := fun ⟨a, es, e⟩ => by
  subst e
  obtain ⟨_, _, _, o, ents, ep, xs, h, _, hd', _⟩ := hφ
  have e2 := ((Heap.get?_eq_some _ a o).mp h).1
  rw [Array.getElem?_replicate] at e2
  split at e2
  · cases e2
    exact hd _ _ hd'
  · cases e2
theorem codeO_nh {c : Addr} {q : Str} : ¬ hotO (LamX.CodeO c q) := not_kt (n := c + 1) (ob := { cls := .none, data := .fields #[.none, .str q 0] }) (fun _ _ z => by cases z) ⟨_, _, 0, by unfold Heap.get?; rw [Array.getElem?_replicate, if_pos (Nat.lt_succ_self _)], rfl, rfl⟩
/-- an exception behind its suite: its class, its dict -/
def exk (a C : Addr) (d : Option Addr) : HO := .ext fun h => ∃ (oe : Obj) (ws : Array Value), h.get? a = some oe ∧ oe.cls = .ref C ∧ oe.dict = d ∧ oe.data = .fields ws
theorem exk_lst {a C : Addr} {d : Option Addr} {xs : List V} : exk a C d ≠ .lst xs := fun e => by
  unfold exk at e; cases e
theorem exk_nh {a C : Addr} {d : Option Addr} : ¬ hotO (exk a C d) := not_kt (n := a + 1) (ob := { cls := .ref C, dict := d, data := .fields #[] }) (fun _ _ z => by cases z) ⟨_, #[], by unfold Heap.get?; rw [Array.getElem?_replicate, if_pos (Nat.lt_succ_self _)], rfl, rfl, rfl⟩
mutual
inductive Co (K : PySem.W.Frag) (M : Addr → Prop) (H : Hp) : V → Dt → Prop
  | n : Co K M H .non .n
  | b (x : Bool) : Co K M H (.bl x) (.b x)
  | i (x : Int) : Co K M H (.int x) (.i x)
  | s (x : Str) : Co K M H (.str x) (.s x)
  | t {a : Addr} {vs : List V} {xs : List Dt} : SqT K H a vs → CoL K M H vs xs → Co K M H (.ref a) (.t xs)
  | l {a : Addr} {vs : List V} {xs : List Dt} : H a = some (.lst vs) → ¬ M a → CoL K M H vs xs → Co K M H (.ref a) (.l xs)
  | z {a : Addr} {vs : List V} {xs : List Dt} : SqF K H a vs → CoL K M H vs xs → Co K M H (.ref a) (.z xs)
  /-- a dict that nobody changes -/
  | m {a : Addr} {kvs : List (Key × V)} {xs : List Dt} : Rd H a (.dK kvs) → ¬ M a → CoL K M H (kvs.map (·.2)) xs → Co K M H (.ref a) (.m (kvs.map fun p => keyD p.1) xs)
  /-- an object of a class of the program that nobody changes -/
  | o {a C dx : Addr} {c : Str} {fvs : List (Str × V)} {fs : List Dt} : H a = some (.ins C dx fvs) → ¬ M a → PySem.W.nsIn K mainGlobals c = some (some (.ref C)) → CoL K M H (fvs.map (·.2)) fs → Co K M H (.ref a) (.o c (fvs.map (·.1)) fs)
  | f {g : Addr} {x : Str} : PySem.W.nsIn K mainGlobals x = some (some (.ref g)) → Co K M H (.ref g) (.f x)
  | k {a : Addr} {es : List (NestedKey × Addr × V)} {ks vs : List Dt} : Rd H a (ktO a es) → ¬ M a → CoL K M H (es.map fun e => .ref e.2.1) ks → ks.all kyT = true → es.map (·.1) = keyNs ks → CoL K M H (es.map (·.2.2)) vs → Co K M H (.ref a) (.k ks vs)
  | x0 {a C : Addr} {c : Str} : H a = some (exk a C none) → PySem.W.nsIn K mainGlobals c = some (some (.ref C)) → Co K M H (.ref a) (.x c [] [])
  | x1 {a C dx : Addr} {c f : Str} {v : V} {y : Dt} : H a = some (exk a C (some dx)) → PySem.W.nsIn K mainGlobals c = some (some (.ref C)) → H dx = some (.xd [(f, v)]) → Co K M H v y → Co K M H (.ref a) (.x c [f] [y])
inductive CoL (K : PySem.W.Frag) (M : Addr → Prop) (H : Hp) : List V → List Dt → Prop
  | nil : CoL K M H [] []
  | cons {v : V} {vs : List V} {x : Dt} {xs : List Dt} : Co K M H v x → CoL K M H vs xs → CoL K M H (v :: vs) (x :: xs)
end
mutual
inductive Ho (K : PySem.W.Frag) (H : Hp) : V → Dt → List Addr → Prop
  | n : Ho K H .non .n []
  | b (x : Bool) : Ho K H (.bl x) (.b x) []
  | i (x : Int) : Ho K H (.int x) (.i x) []
  | s (x : Str) : Ho K H (.str x) (.s x) []
  | f {g : Addr} {x : Str} : PySem.W.nsIn K mainGlobals x = some (some (.ref g)) → Ho K H (.ref g) (.f x) []
  | t {a : Addr} {vs : List V} {xs : List Dt} {F : List Addr} : SqT K H a vs → HoL K H vs xs F → Ho K H (.ref a) (.t xs) F
  | l {a : Addr} {vs : List V} {xs : List Dt} {F : List Addr} : H a = some (.lst vs) → HoL K H vs xs F → Ho K H (.ref a) (.l xs) (a :: F)
  | z {a : Addr} {vs : List V} {xs : List Dt} {F : List Addr} : SqF K H a vs → HoL K H vs xs F → Ho K H (.ref a) (.z xs) F
  | m {a : Addr} {kvs : List (Key × V)} {xs : List Dt} {F : List Addr} : H a = some (.dK kvs) → HoL K H (kvs.map (·.2)) xs F → Ho K H (.ref a) (.m (kvs.map fun p => keyD p.1) xs) (a :: F)
  | o {a C dx : Addr} {c : Str} {fvs : List (Str × V)} {fs : List Dt} {F : List Addr} : H a = some (.ins C dx fvs) → PySem.W.nsIn K mainGlobals c = some (some (.ref C)) → HoL K H (fvs.map (·.2)) fs F → Ho K H (.ref a) (.o c (fvs.map (·.1)) fs) (a :: F)
  | k {a : Addr} {es : List (NestedKey × Addr × V)} {ks vs : List Dt} {F : List Addr} : H a = some (ktO a es) → HoL K H (es.map fun e => .ref e.2.1) ks [] → ks.all kyT = true → es.map (·.1) = keyNs ks → HoL K H (es.map (·.2.2)) vs F → Ho K H (.ref a) (.k ks vs) (a :: F)
inductive HoL (K : PySem.W.Frag) (H : Hp) : List V → List Dt → List Addr → Prop
  | nil : HoL K H [] [] []
  | cons {v : V} {vs : List V} {x : Dt} {xs : List Dt} {F F' : List Addr} : Ho K H v x F → HoL K H vs xs F' → HoL K H (v :: vs) (x :: xs) (F ++ F')
end
def Rp (K : PySem.W.Frag) (M : Addr → Prop) (H : Hp) : Md → V → Dt → List Addr → Prop
  | .c, v, x, F => Co K M H v x ∧ F = []
  | .t, v, x, F => ∃ a vs xs, v = .ref a ∧ x = .l xs ∧ F = [a] ∧ H a = some (.lst vs) ∧ CoL K M H vs xs
  | .a, v, x, F => Ho K H v x F
/-- no table of code objects -/
def notT (o : HO) : Prop := ∀ ps, o ≠ .tbl ps
theorem hot_nt {o : HO} (h : hotO o) : notT o := fun ps z => by rw [z] at h; exact h
/-- what may be changed is a list -/
def Hotty (M : Addr → Prop) (H : Hp) : Prop := ∀ b, M b → ∃ o, H b = some o ∧ hotO o
/-- the cold stays -/
structure Fm (M : Addr → Prop) (H : Hp) (M' : Addr → Prop) (H' : Hp) : Prop where
  keep' : ∀ b o, H b = some o → ¬ M b → ∀ {nt : notT o}, H' b = some o
  grow : ∀ b, M' b → M b ∨ H b = none
  hot : Hotty M H
section
variable {K : PySem.W.Frag} {M M' : Addr → Prop} {H H' : Hp}
theorem Fm.keep (f : Fm M H M' H') (b : Addr) (o : HO) (h : H b = some o) (hn : ¬ M b) (nt : notT o := by first | assumption | exact hot_nt (by assumption) | (intro _ z; cases z)) : H' b = some o := f.keep' b o h hn (nt := nt)
theorem Fm.rd (f : Fm M H M' H') {a : Addr} {u : HO} (h : Rd H a u) (hn : ¬ M a) (nt : notT u := by first | assumption | exact hot_nt (by assumption) | (intro _ z; cases z)) : Rd H' a u := by
  rcases h with h | ⟨o, h⟩
  · exact .inl (f.keep a _ h hn)
  · exact .inr ⟨o, f.keep a _ h hn⟩
theorem Hotty.nls (f : Hotty M H) {a : Addr} {u : HO} (h : Rd H a u) (hu : ¬ hotO u) : ¬ M a := fun z => by
  obtain ⟨o, e, ho⟩ := f a z
  rcases h with h | ⟨o', h⟩
  · rw [h] at e; cases e; exact hu ho
  · rw [h] at e; cases e; exact ho
theorem Hotty.nrd (f : Hotty M H) {a : Addr} {vs : List V} (h : Rd H a (.tup vs)) : ¬ M a := f.nls h fun z => z
theorem Hotty.nfz (f : Hotty M H) {a : Addr} {o : Obj} {u : HO} (h : H a = some (.frz o u)) : ¬ M a := f.nls (.inl h) fun z => z
theorem Fm.sqT (f : Fm M H M' H') {a : Addr} {vs : List V} (h : SqT K H a vs) : SqT K H' a vs := by
  rcases h with h | h
  · exact .inl (f.rd h (f.hot.nrd h))
  · exact .inr h
theorem Fm.nm (f : Fm M H M' H') {a : Addr} {u : HO} (h : Rd H a u) (hn : ¬ M a) : ¬ M' a := fun z => by
  rcases f.grow a z with q | q
  · exact hn q
  · rcases h with h | ⟨o, h⟩ <;> (rw [h] at q; cases q)
theorem Fm.sqF (f : Fm M H M' H') {a : Addr} {vs : List V} (h : SqF K H a vs) : SqF K H' a vs := by
  rcases h with ⟨o, h⟩ | h
  · exact .inl ⟨o, f.keep _ _ h (f.hot.nfz h)⟩
  · exact .inr h
mutual
theorem Co.fm (f : Fm M H M' H') : ∀ {v : V} {x : Dt}, Co K M H v x → Co K M' H' v x
  | _, _, .n => .n
  | _, _, .f h => .f h
  | _, _, .b x => .b x
  | _, _, .i x => .i x
  | _, _, .s x => .s x
  | _, _, .t h q => .t (f.sqT h) (CoL.fm f q)
  | _, _, .l h hn q => .l (f.keep _ _ h hn) (f.nm (.inl h) hn) (CoL.fm f q)
  | _, _, .z h q => .z (f.sqF h) (CoL.fm f q)
  | _, _, .m h hn q => .m (f.rd h hn) (f.nm h hn) (CoL.fm f q)
  | _, _, .o h hn c q => .o (f.keep _ _ h hn) (f.nm (.inl h) hn) c (CoL.fm f q)
  | _, _, .k h hn c1 e1 e2 q => .k (f.rd h hn) (f.nm h hn) (CoL.fm f c1) e1 e2 (CoL.fm f q)
  | _, _, .x0 h c => .x0 (f.keep _ _ h (f.hot.nls (.inl h) exk_nh)) c
  | _, _, .x1 h c d q => .x1 (f.keep _ _ h (f.hot.nls (.inl h) exk_nh)) c (f.keep _ _ d (f.hot.nls (.inl d) fun z => z)) (Co.fm f q)
theorem CoL.fm (f : Fm M H M' H') : ∀ {vs : List V} {xs : List Dt}, CoL K M H vs xs → CoL K M' H' vs xs
  | _, _, .nil => .nil
  | _, _, .cons h q => .cons (Co.fm f h) (CoL.fm f q)
end
/-- fewer that may change, the same heap -/
theorem Co.less {v : V} {x : Dt} (h : Co K M H v x) (q : ∀ b, M' b → M b) (ht : Hotty M H) : Co K M' H v x := h.fm ⟨fun _ _ e _ => e, fun b z => .inl (q b z), ht⟩
theorem CoL.less {v : List V} {x : List Dt} (h : CoL K M H v x) (q : ∀ b, M' b → M b) (ht : Hotty M H) : CoL K M' H v x := h.fm ⟨fun _ _ e _ => e, fun b z => .inl (q b z), ht⟩
mutual
theorem Ho.stay (hb : ∀ b xs, Rd H b (.tup xs) → Rd H' b (.tup xs)) (hz : ∀ b o u, H b = some (.frz o u) → H' b = some (.frz o u)) : ∀ {v : V} {x : Dt} {F : List Addr}, Ho K H v x F → (∀ b ∈ F, H' b = H b) → Ho K H' v x F
  | _, _, _, .n, _ => .n
  | _, _, _, .f h, _ => .f h
  | _, _, _, .b x, _ => .b x
  | _, _, _, .i x, _ => .i x
  | _, _, _, .s x, _ => .s x
  | _, _, _, .t h q, k => .t (by rcases h with h | h; exact .inl (hb _ _ h); exact .inr h) (HoL.stay hb hz q k)
  | _, _, _, .z h q, k => .z (h.elim (fun ⟨o, z⟩ => .inl ⟨o, hz _ _ _ z⟩) .inr) (HoL.stay hb hz q k)
  | _, _, _, .l h q, k => .l ((k _ List.mem_cons_self).trans h) (HoL.stay hb hz q fun b hb => k b (List.mem_cons_of_mem _ hb))
  | _, _, _, .m h q, k => .m ((k _ List.mem_cons_self).trans h) (HoL.stay hb hz q fun b hb => k b (List.mem_cons_of_mem _ hb))
  | _, _, _, .o h c q, k => .o ((k _ List.mem_cons_self).trans h) c (HoL.stay hb hz q fun b hb => k b (List.mem_cons_of_mem _ hb))
  | _, _, _, .k h c1 e1 e2 q, k => .k ((k _ List.mem_cons_self).trans h) (HoL.stay hb hz c1 fun _ z => nomatch z) e1 e2 (HoL.stay hb hz q fun b hb => k b (List.mem_cons_of_mem _ hb))
theorem HoL.stay (hb : ∀ b xs, Rd H b (.tup xs) → Rd H' b (.tup xs)) (hz : ∀ b o u, H b = some (.frz o u) → H' b = some (.frz o u)) : ∀ {vs : List V} {xs : List Dt} {F : List Addr}, HoL K H vs xs F → (∀ b ∈ F, H' b = H b) → HoL K H' vs xs F
  | _, _, _, .nil, _ => .nil
  | _, _, _, .cons h q, k => .cons (Ho.stay hb hz h fun b hb => k b (List.mem_append_left _ hb)) (HoL.stay hb hz q fun b hb => k b (List.mem_append_right _ hb))
end
mutual
theorem Ho.cold : ∀ {v : V} {x : Dt} {F : List Addr}, Ho K H v x F → (∀ b ∈ F, ¬ M b) → Co K M H v x
  | _, _, _, .n, _ => .n
  | _, _, _, .f h, _ => .f h
  | _, _, _, .b x, _ => .b x
  | _, _, _, .i x, _ => .i x
  | _, _, _, .s x, _ => .s x
  | _, _, _, .t h q, k => .t h (HoL.cold q k)
  | _, _, _, .l h q, k => .l h (k _ List.mem_cons_self) (HoL.cold q fun b hb => k b (List.mem_cons_of_mem _ hb))
  | _, _, _, .z h q, k => .z h (HoL.cold q k)
  | _, _, _, .m h q, k => .m (.inl h) (k _ List.mem_cons_self) (HoL.cold q fun b hb => k b (List.mem_cons_of_mem _ hb))
  | _, _, _, .o h c q, k => .o h (k _ List.mem_cons_self) c (HoL.cold q fun b hb => k b (List.mem_cons_of_mem _ hb))
  | _, _, _, .k h c1 e1 e2 q, k => .k (.inl h) (k _ List.mem_cons_self) (HoL.cold c1 fun _ z => nomatch z) e1 e2 (HoL.cold q fun b hb => k b (List.mem_cons_of_mem _ hb))
theorem HoL.cold : ∀ {vs : List V} {xs : List Dt} {F : List Addr}, HoL K H vs xs F → (∀ b ∈ F, ¬ M b) → CoL K M H vs xs
  | _, _, _, .nil, _ => .nil
  | _, _, _, .cons h q, k => .cons (Ho.cold h fun b hb => k b (List.mem_append_left _ hb)) (HoL.cold q fun b hb => k b (List.mem_append_right _ hb))
end
mutual
theorem Ho.lists : ∀ {v : V} {x : Dt} {F : List Addr}, Ho K H v x F → ∀ b ∈ F, ∃ o, H b = some o ∧ hotO o
  | _, _, _, .n, _, h => nomatch h
  | _, _, _, .f _, _, h => nomatch h
  | _, _, _, .b x, _, h => nomatch h
  | _, _, _, .i x, _, h => nomatch h
  | _, _, _, .s x, _, h => nomatch h
  | _, _, _, .t h q, b, hb => HoL.lists q b hb
  | _, _, _, .z h q, b, hb => HoL.lists q b hb
  | _, _, _, .l h q, b, hb => by
    rcases List.mem_cons.mp hb with e | hb
    · rw [e]; exact ⟨_, h, trivial⟩
    · exact HoL.lists q b hb
  | _, _, _, .m h q, b, hb => by
    rcases List.mem_cons.mp hb with e | hb
    · rw [e]; exact ⟨_, h, trivial⟩
    · exact HoL.lists q b hb
  | _, _, _, .o h c q, b, hb => by
    rcases List.mem_cons.mp hb with e | hb
    · rw [e]; exact ⟨_, h, trivial⟩
    · exact HoL.lists q b hb
  | _, _, _, .k h _ _ _ q, b, hb => by
    rcases List.mem_cons.mp hb with e | hb
    · rw [e]; exact ⟨_, h, kt_hot⟩
    · exact HoL.lists q b hb
theorem HoL.lists : ∀ {vs : List V} {xs : List Dt} {F : List Addr}, HoL K H vs xs F → ∀ b ∈ F, ∃ o, H b = some o ∧ hotO o
  | _, _, _, .nil, _, h => nomatch h
  | _, _, _, .cons h q, b, hb => by
    rcases List.mem_append.mp hb with hb | hb
    · exact Ho.lists h b hb
    · exact HoL.lists q b hb
end
mutual
/-- flat data is both -/
theorem Co.ho : ∀ {v : V} {x : Dt}, Co K M H v x → x.flat = true → Ho K H v x []
  | _, _, .n, _ => .n
  | _, _, .f h, _ => .f h
  | _, _, .b x, _ => .b x
  | _, _, .i x, _ => .i x
  | _, _, .s x, _ => .s x
  | _, _, .t h q, k => .t h (CoL.ho q (by simpa [Dt.flat] using k))
  | _, _, .l h hn q, k => by simp [Dt.flat] at k
  | _, _, .z h q, k => .z h (CoL.ho q (by simpa [Dt.flat] using k))
  | _, _, .m h hn q, k => by simp [Dt.flat] at k
  | _, _, .o h hn c q, k => by simp [Dt.flat] at k
  | _, _, .k _ _ _ _ _ _, k => by simp [Dt.flat] at k
  | _, _, .x0 h c, k => by simp [Dt.flat] at k
  | _, _, .x1 h c d q, k => by simp [Dt.flat] at k
theorem CoL.ho : ∀ {vs : List V} {xs : List Dt}, CoL K M H vs xs → flatL xs = true → HoL K H vs xs []
  | _, _, .nil, _ => .nil
  | _, _, .cons h q, k => by
    simp only [flatL, Bool.and_eq_true] at k
    exact .cons (F := []) (F' := []) (Co.ho h k.1) (CoL.ho q k.2)
end
mutual
theorem Ho.flatE : ∀ {v : V} {x : Dt} {F : List Addr}, Ho K H v x F → x.flat = true → F = []
  | _, _, _, .n, _ => rfl
  | _, _, _, .f _, _ => rfl
  | _, _, _, .b x, _ => rfl
  | _, _, _, .i x, _ => rfl
  | _, _, _, .s x, _ => rfl
  | _, _, _, .t h q, k => HoL.flatE q (by simpa [Dt.flat] using k)
  | _, _, _, .z h q, k => HoL.flatE q (by simpa [Dt.flat] using k)
  | _, _, _, .l h q, k => by simp [Dt.flat] at k
  | _, _, _, .m h q, k => by simp [Dt.flat] at k
  | _, _, _, .o h c q, k => by simp [Dt.flat] at k
  | _, _, _, .k _ _ _ _ _, k => by simp [Dt.flat] at k
theorem HoL.flatE : ∀ {vs : List V} {xs : List Dt} {F : List Addr}, HoL K H vs xs F → flatL xs = true → F = []
  | _, _, _, .nil, _ => rfl
  | _, _, _, .cons h q, k => by
    simp only [flatL, Bool.and_eq_true] at k
    rw [Ho.flatE h k.1, HoL.flatE q k.2]; rfl
end
theorem Rp.lists {m : Md} {v : V} {x : Dt} {F : List Addr} (h : Rp K M H m v x F) : ∀ b ∈ F, ∃ o, H b = some o ∧ hotO o := by
  cases m with
  | c => obtain ⟨_, rfl⟩ := h; exact fun _ z => nomatch z
  | t => obtain ⟨a, vs, xs, _, _, rfl, e, _⟩ := h; exact fun b hb => by rw [List.mem_singleton.mp hb]; exact ⟨_, e, trivial⟩
  | a => exact Ho.lists h
/-- given up: anybody may hold it -/
theorem Rp.cold {m : Md} {v : V} {x : Dt} {F : List Addr} (h : Rp K M H m v x F) (ht : Hotty M H) (k : ∀ b ∈ F, ¬ M' b) (q : ∀ b, M' b → M b) : Co K M' H v x := by
  cases m with
  | c => exact h.1.less q ht
  | t => obtain ⟨a, vs, xs, rfl, rfl, rfl, e, c⟩ := h; exact .l e (k a (by simp)) (c.less q ht)
  | a => exact Ho.cold h k
end
/-- defs within which a nameless def is made, and the tables of code objects of these -/
def lamNames : List Str := ["came_at", "tail"]
def TabK (K : PySem.W.Frag) (P : Addr) (q : Str) : Prop := ∃ (x : Str) (f c : Addr) (fo co : Obj) (fd : FuncData) (vs : Array Value), x ∈ lamNames ∧ PySem.W.nsIn K mainGlobals x = some (some (.ref f)) ∧ K.lookup f = some fo ∧ fo.data = .func fd ∧ fd.code = .ref c ∧ K.lookup c = some co ∧ co.data = .fields vs ∧ vs[11]? = some (.ref P) ∧ q = x ++ ".<locals>." ++ "<lambda>"
def TabsK (K : PySem.W.Frag) (H : Hp) : Prop := ∀ P q, TabK K P q → LamX.TabS H P q
theorem TabsK.cold {K : PySem.W.Frag} {H H' : Hp} (t : TabsK K H) (hk : ∀ b o, H b = some o → ¬ hotO o → H' b = some o) : TabsK K H' := fun P q k => by
  obtain ⟨ps, h1, h2, h3⟩ := t P q k
  refine ⟨ps, hk _ _ h1 fun z => z, h2, fun pos cv hc => ?_⟩
  obtain ⟨c, e1, e2⟩ := h3 pos cv hc
  exact ⟨c, e1, hk _ _ e2 codeO_nh⟩
theorem TabsK.stay {K : PySem.W.Frag} {M : Addr → Prop} {H H' : Hp} (t : TabsK K H) (ht : Hotty M H) (hk : ∀ b o, H b = some o → ¬ M b → H' b = some o) : TabsK K H' :=
  t.cold fun b o e n => hk b o e fun z => by
    obtain ⟨u, h1, h2⟩ := ht b z
    rw [e] at h1; cases h1
    exact n h2
/-- the environment: each slot's data stand there; G: the owned lists of each slot -/
structure ER (K : PySem.W.Frag) (r : Ev) (σ : L2.St) (G : Nat → List Addr) (M : Addr → Prop) (H : Hp) : Prop where
  len : r.length = σ.length
  at_ : ∀ i x m, r[i]? = some (some (x, m)) → ∃ v, σ[i]? = some (some v) ∧ Rp K M H m v x (G i)
  emp : ∀ i, (∀ x m, r[i]? ≠ some (some (x, m))) → G i = []
  nd : ∀ i, (G i).Nodup
  dj : ∀ i j, i ≠ j → ∀ b, b ∈ G i → b ∉ G j
  sub : ∀ i b, b ∈ G i → M b
  hot : Hotty M H
  tab : TabsK K H
/-- from one state to a later one: nothing but the environment's own lists has changed -/
structure Evo (H : Hp) (M : Addr → Prop) (G : Nat → List Addr) (H' : Hp) (M' : Addr → Prop) (G' : Nat → List Addr) (F : List Addr) : Prop where
  pres' : ∀ b o, H b = some o → (∀ i, b ∉ G i) → ∀ {nt : notT o}, H' b = some o
  dom : ∀ b, H' b = none → H b = none
  grow : ∀ b, M' b → M b ∨ H b = none
  keep : ∀ b, M b → (∀ i, b ∉ G i) → M' b
  env : ∀ i b, b ∈ G' i → (∃ j, b ∈ G j) ∨ H b = none
  res : ∀ b, b ∈ F → (∃ j, b ∈ G j) ∨ H b = none
section
variable {K : PySem.W.Frag} {M M' M2 : Addr → Prop} {H H' H2 : Hp} {G G' G2 : Nat → List Addr} {F F2 : List Addr} {r r' : Ev} {σ σ' : L2.St}
theorem Evo.pres (e : Evo H M G H' M' G' F) (b : Addr) (o : HO) (h : H b = some o) (hb : ∀ i, b ∉ G i) (nt : notT o := by first | assumption | exact hot_nt (by assumption) | (intro _ z; cases z)) : H' b = some o := e.pres' b o h hb (nt := nt)
theorem Evo.refl : Evo H M G H M G [] := ⟨fun _ _ e _ => e, fun _ e => e, fun _ e => .inl e, fun _ e _ => e, fun i b h => .inl ⟨i, h⟩, fun _ h => nomatch h⟩
theorem Evo.trans (ht : Hotty M H) (a : Evo H M G H' M' G' F2) (c : Evo H' M' G' H2 M2 G2 F) : Evo H M G H2 M2 G2 F := by
  have out : ∀ b o, H b = some o → (∀ i, b ∉ G i) → ∀ i, b ∉ G' i := fun b o e hb i hi => by
    rcases a.env i b hi with ⟨j, q⟩ | q
    · exact hb j q
    · rw [e] at q; cases q
  have nn : ∀ b, H' b = none → H b = none := a.dom
  refine ⟨fun b o e hb => c.pres b o (a.pres b o e hb) (out b o e hb), fun b e => a.dom b (c.dom b e), fun b h => ?_, fun b h hb => ?_, fun i b h => ?_, fun b h => ?_⟩
  · rcases c.grow b h with h | h
    · exact a.grow b h
    · exact .inr (nn b h)
  · obtain ⟨xs, e, _⟩ := ht b h
    exact c.keep b (a.keep b h hb) (out b _ e hb)
  · rcases c.env i b h with ⟨j, q⟩ | q
    · exact a.env j b q
    · exact .inr (nn b q)
  · rcases c.res b h with ⟨j, q⟩ | q
    · exact a.env j b q
    · exact .inr (nn b q)
theorem ER.fm (e : ER K r σ G M H) (a : Evo H M G H' M' G' F) : Fm M H M' H' := ⟨fun b o q hn => a.pres b o q fun i hi => hn (e.sub i b hi), a.grow, e.hot⟩
/-- what is held besides stays as it was -/
theorem Rp.evo {m : Md} {v : V} {x : Dt} {F1 : List Addr} (h : Rp K M H m v x F1) (k : ∀ b ∈ F1, M b ∧ ∀ i, b ∉ G i) (e : ER K r σ G M H) (a : Evo H M G H' M' G' F) :
    Rp K M' H' m v x F1 ∧ (∀ b ∈ F1, M' b ∧ ∀ i, b ∉ G' i) ∧ ∀ b ∈ F1, b ∉ F := by
  have f := e.fm a
  have st : ∀ b ∈ F1, H' b = H b := fun b hb => by
    obtain ⟨xs, q, _⟩ := h.lists b hb
    rw [q]; exact a.pres b _ q (k b hb).2
  have nn : ∀ b ∈ F1, ∀ {j : Prop}, ((∃ j, b ∈ G j) ∨ H b = none) → j := fun b hb j z => by
    obtain ⟨xs, q, _⟩ := h.lists b hb
    rcases z with ⟨i, z⟩ | z
    · exact absurd z ((k b hb).2 i)
    · rw [q] at z; cases z
  refine ⟨?_, fun b hb => ⟨a.keep b (k b hb).1 (k b hb).2, fun i hi => nn b hb (a.env i b hi)⟩, fun b hb hf => nn b hb (a.res b hf)⟩
  cases m with
  | c => exact ⟨h.1.fm f, h.2⟩
  | t =>
    obtain ⟨a, vs, xs, rfl, rfl, rfl, q, c⟩ := h
    exact ⟨a, vs, xs, rfl, rfl, rfl, (st a (by simp)).trans q, c.fm f⟩
  | a => exact Ho.stay (fun b xs z => f.rd z (e.hot.nrd z)) (fun b o u z => f.keep b _ z (e.hot.nfz z)) h st
/-- one slot is given another value -/
theorem ER.put {i : Nat} {m : Md} {v : V} {x : Dt} (e : ER K r σ G M H) (h : Rp K M H m v x F) (nd : F.Nodup) (k : ∀ b ∈ F, M b ∧ ∀ j, b ∉ G j) (hi : i < σ.length) :
    ER K (r.set i (some (x, m))) (σ.set i (some v)) (fun j => if j = i then F else G j) M H := by
  refine ⟨by simp [e.len], fun j y n hj => ?_, fun j hj => ?_, fun j => ?_, fun j l hne b hb => ?_, fun j b hb => ?_, e.hot, e.tab⟩
  · by_cases q : j = i
    · subst q
      rw [List.getElem?_set_self (by rw [e.len]; exact hi)] at hj
      cases hj
      exact ⟨v, List.getElem?_set_self hi, by simpa using h⟩
    · rw [List.getElem?_set_ne (Ne.symm q)] at hj
      obtain ⟨w, h1, h2⟩ := e.at_ j y n hj
      exact ⟨w, by rw [List.getElem?_set_ne (Ne.symm q)]; exact h1, by simpa [q] using h2⟩
  · by_cases q : j = i
    · subst q
      exact absurd (List.getElem?_set_self (by rw [e.len]; exact hi)) (hj x m)
    · rw [if_neg q]
      exact e.emp j fun y n z => hj y n (by rw [List.getElem?_set_ne (Ne.symm q)]; exact z)
  · by_cases q : j = i
    · simpa [q] using nd
    · simpa [q] using e.nd j
  · by_cases q : j = i
    · subst q
      have : l ≠ j := Ne.symm hne
      simp only [if_true, if_neg this] at hb ⊢
      exact (k b hb).2 l
    · simp only [if_neg q] at hb
      by_cases q' : l = i
      · simp only [if_pos q']
        exact fun z => (k b z).2 j hb
      · simp only [if_neg q']
        exact e.dj j l hne b hb
  · by_cases q : j = i
    · simp only [if_pos q] at hb; exact (k b hb).1
    · simp only [if_neg q] at hb; exact e.sub j b hb
/-- a slot is forgotten -/
theorem ER.drop (e : ER K r σ G M H) (i : Nat) : ER K (r.set i none) σ (fun j => if j = i then [] else G j) M H := by
  refine ⟨by simp [e.len], fun j y n hj => ?_, fun j hj => ?_, fun j => ?_, fun j l hne b hb => ?_, fun j b hb => ?_, e.hot, e.tab⟩
  · by_cases q : j = i
    · subst q
      by_cases hl : j < r.length
      · rw [List.getElem?_set_self hl] at hj; cases hj
      · rw [List.getElem?_eq_none (by simpa using hl)] at hj; cases hj
    · rw [List.getElem?_set_ne (Ne.symm q)] at hj
      obtain ⟨w, h1, h2⟩ := e.at_ j y n hj
      exact ⟨w, h1, by simpa [q] using h2⟩
  · by_cases q : j = i
    · rw [if_pos q]
    · rw [if_neg q]
      exact e.emp j fun y n z => hj y n (by rw [List.getElem?_set_ne (Ne.symm q)]; exact z)
  · by_cases q : j = i
    · simp [q]
    · simpa [q] using e.nd j
  · by_cases q : j = i
    · simp [q] at hb
    · simp only [if_neg q] at hb
      by_cases q' : l = i
      · simp [q']
      · simp only [if_neg q']
        exact e.dj j l hne b hb
  · by_cases q : j = i
    · simp [q] at hb
    · simp only [if_neg q] at hb; exact e.sub j b hb
/-- the environment behind a change that is not its own -/
theorem ER.evoF (e : ER K r σ G M H) (hk : ∀ b o, H b = some o → (¬ M b ∨ ∃ i, b ∈ G i) → H' b = some o) (gr : ∀ b, M' b → M b ∨ H b = none) (kp : ∀ i b, b ∈ G i → M' b) (ht : Hotty M' H') : ER K r σ G M' H' := by
  have f : Fm M H M' H' := ⟨fun b o q hn => hk b o q (.inl hn), gr, e.hot⟩
  refine ⟨e.len, fun i x m h => ?_, e.emp, e.nd, e.dj, kp, ht, e.tab.stay e.hot fun b o q hn => hk b o q (.inl hn)⟩
  obtain ⟨v, h1, h2⟩ := e.at_ i x m h
  refine ⟨v, h1, ?_⟩
  have st : ∀ b ∈ G i, H' b = H b := fun b hb => by
    obtain ⟨xs, q, _⟩ := h2.lists b hb
    rw [q]; exact hk b _ q (.inr ⟨i, hb⟩)
  cases m with
  | c => exact ⟨h2.1.fm f, h2.2⟩
  | t =>
    obtain ⟨a, vs, xs, rfl, rfl, eG, q, c⟩ := h2
    exact ⟨a, vs, xs, rfl, rfl, eG, (st a (by rw [eG]; simp)).trans q, c.fm f⟩
  | a => exact Ho.stay (fun b xs z => f.rd z (e.hot.nrd z)) (fun b o u z => f.keep b _ z (e.hot.nfz z)) h2 st
/-- the same, where tables may have grown -/
theorem ER.evoW (e : ER K r σ G M H) (tb : TabsK K H') (hk : ∀ b o, H b = some o → (¬ M b ∨ ∃ i, b ∈ G i) → ∀ {nt : notT o}, H' b = some o) (gr : ∀ b, M' b → M b ∨ H b = none) (kp : ∀ i b, b ∈ G i → M' b) (ht : Hotty M' H') : ER K r σ G M' H' := by
  have f : Fm M H M' H' := ⟨fun b o q hn {nt} => hk b o q (.inl hn) (nt := nt), gr, e.hot⟩
  refine ⟨e.len, fun i x m h => ?_, e.emp, e.nd, e.dj, kp, ht, tb⟩
  obtain ⟨v, h1, h2⟩ := e.at_ i x m h
  refine ⟨v, h1, ?_⟩
  have st : ∀ b ∈ G i, H' b = H b := fun b hb => by
    obtain ⟨xs, q, ho⟩ := h2.lists b hb
    rw [q]; exact hk b _ q (.inr ⟨i, hb⟩) (nt := hot_nt ho)
  cases m with
  | c => exact ⟨h2.1.fm f, h2.2⟩
  | t =>
    obtain ⟨a, vs, xs, rfl, rfl, eG, q, c⟩ := h2
    exact ⟨a, vs, xs, rfl, rfl, eG, (st a (by rw [eG]; simp)).trans q, c.fm f⟩
  | a => exact Ho.stay (fun b xs z => f.rd z (e.hot.nrd z)) (fun b o u z => f.keep b _ z (e.hot.nfz z)) h2 st
end
end Y
namespace Y
open PySem L2
/-- an expression's end -/
structure PX (K : PySem.W.Frag) (r' : Ev) (σ : L2.St) (H : Hp) (M : Addr → Prop) (G : Nat → List Addr) (v : V) (x : Dt) (m : Md) (H' : Hp) (M' : Addr → Prop) (G' : Nat → List Addr) (F : List Addr) : Prop where
  er : ER K r' σ G' M' H'
  ev : Evo H M G H' M' G' F
  rp : Rp K M' H' m v x F
  nd : F.Nodup
  hot : ∀ b ∈ F, M' b ∧ ∀ i, b ∉ G' i
/-- the fields of an exception -/
def XdOk (K : PySem.W.Frag) (M : Addr → Prop) (H : Hp) (d : Option Addr) (fs : List (Str × Dt)) : Prop :=
  match fs with
  | [] => d = none
  | _ => ∃ dx vs, d = some dx ∧ H dx = some (.xd ((fs.map (·.1)).zip vs)) ∧ vs.length = fs.length ∧ CoL K M H vs (fs.map (·.2))
/-- an exception's end -/
structure XX (K : PySem.W.Frag) (r' : Ev) (σ : L2.St) (H : Hp) (M : Addr → Prop) (G : Nat → List Addr) (fs : List (Str × Dt)) (d : Option Addr) (H' : Hp) (M' : Addr → Prop) (G' : Nat → List Addr) : Prop where
  er : ER K r' σ G' M' H'
  ev : Evo H M G H' M' G' []
  xd : XdOk K M' H' d fs
def tI (K : PySem.W.Frag) (cl : Str → Addr) (W : WX) (f : Ev → Ou Vl) : TE := fun σ H Q => ∃ r M G, ER K r σ G M H ∧
  match f r with
  | .ok (x, m) r' => ∀ v H' M' G' F, PX K r' σ H M G v x m H' M' G' F → Q v H'
  | .ex c fs r' => ∀ d H' M' G', XX K r' σ H M G fs d H' M' G' → W (.ref (cl c)) d σ H'
  | .no => False
/-- an expression | a test -/
def JE (X : Cx) (cl : Str → Addr) (W : WX) (e : Expr) (f : Ev → Ou Vl) : Prop := Takes X W → PE X e (tI X.K cl W f)
def tIB (K : PySem.W.Frag) (cl : Str → Addr) (W : WX) (f : Ev → Ou Bool) : TT := fun σ H Q => ∃ r M G, ER K r σ G M H ∧
  match f r with
  | .ok b r' => ∀ H' M' G', ER K r' σ G' M' H' → Evo H M G H' M' G' [] → Q b H'
  | .ex c fs r' => ∀ d H' M' G', XX K r' σ H M G fs d H' M' G' → W (.ref (cl c)) d σ H'
  | .no => False
def JT (X : Cx) (cl : Str → Addr) (W : WX) (e : Expr) (f : Ev → Ou Bool) : Prop := Takes X W → PT X e (tIB X.K cl W f)
theorem _root_.L2.PE.yimp {X : Cx} {e : Expr} {t t' : TE} (h : PE X e t) (k : ∀ σ H Q, t' σ H Q → t σ H Q) : PE X e t' := ⟨fun pins s σ H Q I q => h.run pins s σ H Q I (k σ H Q q)⟩
theorem _root_.L2.PT.yimp {X : Cx} {e : Expr} {t t' : TT} (h : PT X e t) (k : ∀ σ H Q, t' σ H Q → t σ H Q) : PT X e t' := ⟨fun pins s σ H Q I q => h.run pins s σ H Q I (k σ H Q q)⟩
/-- an operand: an expression, whose value is given up, or a variable, read where all operands are there -/
inductive Am where
  | e (f : Ev → Ou Vl) | v (i : Nat)
inductive Ag where
  | d (x : Dt) | v (i : Nat)
def evA : List Am → Ev → Ou (List Ag)
  | [], r => .ok [] r
  | .e f :: as, r => match f r with
    | .ok (x, _) r1 => match evA as r1 with
      | .ok ys r2 => .ok (.d x :: ys) r2
      | .ex c fs r2 => .ex c fs r2
      | .no => .no
    | .ex c fs r1 => .ex c fs r1
    | .no => .no
  | .v i :: as, r => match r[i]? with
    | some (some _) => match evA as r with
      | .ok ys r2 => .ok (.v i :: ys) r2
      | .ex c fs r2 => .ex c fs r2
      | .no => .no
    | _ => .no
/-- the operand's own judgement and reading -/
def JO (X : Cx) (cl : Str → Addr) (W : WX) (e : Expr) : Am → Prop
  | .e f => JE X cl W e f
  | .v i => PE X e (tVar i)
def tO (K : PySem.W.Frag) (cl : Str → Addr) (W : WX) : Am → TE
  | .e f => tI K cl W f
  | .v i => tVar i
theorem JO.pe {X : Cx} {cl : Str → Addr} {W : WX} {e : Expr} {a : Am} (h : JO X cl W e a) (tk : Takes X W) : PE X e (tO X.K cl W a) := by
  cases a with
  | e f => exact h tk
  | v i => exact h
def tOs (K : PySem.W.Frag) (cl : Str → Addr) (W : WX) : List Am → L2.St → Hp → (List V → Hp → Prop) → Prop
  | [], _, H, k => k [] H
  | a :: as, σ, H, k => tO K cl W a σ H fun x H1 => tOs K cl W as σ H1 fun vs H2 => k (x :: vs) H2
inductive AgL (K : PySem.W.Frag) (M : Addr → Prop) (H : Hp) (σ : L2.St) : List V → List Ag → Prop
  | nil : AgL K M H σ [] []
  | d {v : V} {vs : List V} {x : Dt} {as : List Ag} : Co K M H v x → AgL K M H σ vs as → AgL K M H σ (v :: vs) (.d x :: as)
  | v {v : V} {vs : List V} {i : Nat} {as : List Ag} : σ[i]? = some (some v) → AgL K M H σ vs as → AgL K M H σ (v :: vs) (.v i :: as)
theorem AgL.fm {K : PySem.W.Frag} {M M' : Addr → Prop} {H H' : Hp} {σ : L2.St} (f : Fm M H M' H') : ∀ {vs : List V} {as : List Ag}, AgL K M H σ vs as → AgL K M' H' σ vs as
  | _, _, .nil => .nil
  | _, _, .d h q => .d (h.fm f) (q.fm f)
  | _, _, .v h q => .v h (q.fm f)
section
variable {K : PySem.W.Frag} {cl : Str → Addr} {W : WX} {M M' : Addr → Prop} {H H' : Hp} {G G' : Nat → List Addr} {r r' : Ev} {σ : L2.St}
/-- less may change: what a value held is given up -/
theorem ER.lessM (e : ER K r σ G M H) (q : ∀ b, M' b → M b) (k : ∀ i b, b ∈ G i → M' b) : ER K r σ G M' H :=
  e.evoF (fun b o h _ => h) (fun b z => .inl (q b z)) k fun b z => e.hot b (q b z)
/-- an expression's value given up -/
theorem PX.giveUp (ht : Hotty M H) {v : V} {x : Dt} {m : Md} {F : List Addr} (p : PX K r' σ H M G v x m H' M' G' F) :
    ∃ M2, ER K r' σ G' M2 H' ∧ Evo H M G H' M2 G' [] ∧ Co K M2 H' v x := by
  refine ⟨fun b => M' b ∧ b ∉ F, p.er.lessM (fun b z => z.1) (fun i b hb => ⟨p.er.sub i b hb, fun hf => (p.hot b hf).2 i hb⟩), ⟨p.ev.pres', p.ev.dom, fun b z => p.ev.grow b z.1, fun b h hb => ⟨p.ev.keep b h hb, fun hf => ?_⟩, p.ev.env, fun _ h => nomatch h⟩, ?_⟩
  · rcases p.ev.res b hf with ⟨j, z⟩ | z
    · exact hb j z
    · obtain ⟨xs, q, _⟩ := ht b h
      rw [q] at z; cases z
  · exact p.rp.cold p.er.hot (fun b hb z => z.2 hb) fun b z => z.1
/-- operands one by one -/
theorem tOs_ok : ∀ (as : List Am) {r : Ev} {M : Addr → Prop} {G : Nat → List Addr} {H : Hp} {k : List V → Hp → Prop}, ER K r σ G M H →
    (match evA as r with
      | .ok ys r' => ∀ vs H' M' G', ER K r' σ G' M' H' → Evo H M G H' M' G' [] → AgL K M' H' σ vs ys → k vs H'
      | .ex c fs r' => ∀ d H' M' G', XX K r' σ H M G fs d H' M' G' → W (.ref (cl c)) d σ H'
      | .no => False) → tOs K cl W as σ H k
  | [], r, M, G, H, k, e, h => h [] H M G e .refl .nil
  | .e f :: as, r, M, G, H, k, e, h => by
    show tI K cl W f σ H _
    refine ⟨r, M, G, e, ?_⟩
    simp only [evA] at h
    cases hf : f r with
    | ok xm r1 =>
      obtain ⟨x, m⟩ := xm
      rw [hf] at h
      intro v H1 M1 G1 F p
      obtain ⟨M2, e2, v2, c2⟩ := p.giveUp e.hot
      refine tOs_ok as e2 ?_
      simp only at h
      cases ha : evA as r1 with
      | ok ys r2 =>
        rw [ha] at h
        intro vs H3 M3 G3 e3 v3 a3
        exact h (v :: vs) H3 M3 G3 e3 (v2.trans e.hot v3) (.d (c2.fm (e2.fm v3)) a3)
      | ex c fs r2 =>
        rw [ha] at h
        intro d H3 M3 G3 q
        exact h d H3 M3 G3 ⟨q.er, v2.trans e.hot q.ev, q.xd⟩
      | no =>
        rw [ha] at h
        exact h
    | ex c fs r1 => rw [hf] at h; exact h
    | no => rw [hf] at h; exact h
  | .v i :: as, r, M, G, H, k, e, h => by
    simp only [evA] at h
    cases hr : r[i]? with
    | none => rw [hr] at h; exact h.elim
    | some o =>
      cases o with
      | none => rw [hr] at h; exact h.elim
      | some xm =>
        obtain ⟨x, m⟩ := xm
        rw [hr] at h
        obtain ⟨v, hv, _⟩ := e.at_ i x m hr
        refine ⟨v, hv, tOs_ok as e ?_⟩
        simp only at h
        cases ha : evA as r with
        | ok ys r2 =>
          rw [ha] at h
          intro vs H3 M3 G3 e3 v3 a3
          exact h (v :: vs) H3 M3 G3 e3 v3 (.v hv a3)
        | ex c fs r2 => rw [ha] at h; exact h
        | no => rw [ha] at h; exact h
def look (r : Ev) : List Ag → Option (List Dt)
  | [] => some []
  | .d x :: ys => (look r ys).map (x :: ·)
  | .v i :: ys => match r[i]? with
    | some (some (x, _)) => (look r ys).map (x :: ·)
    | _ => none
/-- the variables among the operands are given up -/
def frz : List Ag → Ev → Ev
  | [], r => r
  | .d _ :: ys, r => frz ys r
  | .v i :: ys, r => match r[i]? with
    | some (some (x, _)) => frz ys (r.set i (some (x, .c)))
    | _ => frz ys r
/-- the owned lists of the variables among the operands -/
def owns (G : Nat → List Addr) : List Ag → List Addr
  | [] => []
  | .d _ :: ys => owns G ys
  | .v i :: ys => G i ++ owns G ys
theorem mem_owns {b : Addr} : ∀ {ys : List Ag}, b ∈ owns G ys → ∃ i, b ∈ G i
  | .d _ :: ys, h => mem_owns (ys := ys) h
  | .v i :: ys, h => by
    rcases List.mem_append.mp h with h | h
    · exact ⟨i, h⟩
    · exact mem_owns h
/-- where nothing of the operands' variables may change, all operands are cold -/
theorem look_cold (e : ER K r σ G M H) (k : ∀ b, M' b → M b) : ∀ {ys : List Ag} {vs : List V} {xs : List Dt}, (∀ b ∈ owns G ys, ¬ M' b) → AgL K M H σ vs ys → look r ys = some xs → CoL K M' H vs xs
  | [], _, _, _, .nil, h => by cases h; exact .nil
  | .d x :: ys, _, _, q, .d h a, hl => by
    simp only [look, Option.map_eq_some_iff] at hl
    obtain ⟨xs, h1, rfl⟩ := hl
    exact .cons (h.less k e.hot) (look_cold (ys := ys) e k q a h1)
  | .v i :: ys, _, _, q, .v h a, hl => by
    simp only [look] at hl
    split at hl
    · rename_i x m hr
      simp only [Option.map_eq_some_iff] at hl
      obtain ⟨xs, h1, rfl⟩ := hl
      obtain ⟨v, hv, rp⟩ := e.at_ i x m hr
      rw [h] at hv; cases hv
      exact .cons (rp.cold e.hot (fun b hb => q b (List.mem_append_left _ hb)) k) (look_cold (ys := ys) e k (fun b hb => q b (List.mem_append_right _ hb)) a h1)
    · cases hl
/-- a variable given up -/
theorem ER.give {i : Nat} {x : Dt} {m : Md} (e : ER K r σ G M H) (hr : r[i]? = some (some (x, m))) :
    ER K (r.set i (some (x, .c))) σ (fun j => if j = i then [] else G j) (fun b => M b ∧ b ∉ G i) H := by
  obtain ⟨v, hv, rp⟩ := e.at_ i x m hr
  have hi : i < σ.length := (List.getElem?_eq_some_iff.mp hv).1
  have e2 : ER K (r.set i none) σ (fun j => if j = i then [] else G j) (fun b => M b ∧ b ∉ G i) H := (e.drop i).lessM (fun b z => z.1) fun j b hb => by
    by_cases q : j = i
    · simp [q] at hb
    · simp only [if_neg q] at hb
      exact ⟨e.sub j b hb, e.dj j i q b hb⟩
  have e3 := e2.put (i := i) (m := .c) (v := v) (x := x) (F := []) ⟨rp.cold e.hot (fun b hb z => z.2 hb) fun b z => z.1, rfl⟩ List.nodup_nil (fun b hb => nomatch hb) hi
  have s1 : σ.set i (some v) = σ := by
    apply List.ext_getElem?
    intro j
    by_cases q : i = j
    · subst q; rw [List.getElem?_set_self hi, hv]
    · rw [List.getElem?_set_ne q]
  rw [s1, List.set_set] at e3
  have g1 : (fun j => if j = i then ([] : List Addr) else if j = i then [] else G j) = fun j => if j = i then [] else G j := by
    funext j; by_cases q : j = i <;> simp [q]
  rw [g1] at e3
  exact e3
theorem ER.frz : ∀ (ys : List Ag) {r : Ev} {G : Nat → List Addr} {M : Addr → Prop}, ER K r σ G M H → ∃ G', ER K (Y.frz ys r) σ G' (fun b => M b ∧ b ∉ owns G ys) H ∧ ∀ i b, b ∈ G' i → b ∈ G i
  | [], r, G, M, e => ⟨G, e.lessM (fun b z => z.1) (fun i b hb => ⟨e.sub i b hb, by simp [owns]⟩), fun _ _ h => h⟩
  | .d x :: ys, r, G, M, e => ER.frz ys e
  | .v i :: ys, r, G, M, e => by
    simp only [Y.frz]
    cases hr : r[i]? with
    | none =>
      obtain ⟨G', e', s⟩ := ER.frz ys e
      have z : G i = [] := e.emp i fun x m h => by rw [hr] at h; cases h
      exact ⟨G', by simpa [owns, z] using e', s⟩
    | some o =>
      cases o with
      | none =>
        obtain ⟨G', e', s⟩ := ER.frz ys e
        have z : G i = [] := e.emp i fun x m h => by rw [hr] at h; cases h
        exact ⟨G', by simpa [owns, z] using e', s⟩
      | some xm =>
        obtain ⟨x, m⟩ := xm
        obtain ⟨G', e', s⟩ := ER.frz ys (e.give hr)
        have hs : ∀ j b, b ∈ G' j → b ∈ G j := fun j b hb => by
          have := s j b hb
          by_cases q : j = i
          · simp [q] at this
          · simpa [q] using this
        have ow : ∀ (zs : List Ag) b, b ∈ owns (fun j => if j = i then [] else G j) zs → b ∈ owns G zs := by
          intro zs
          induction zs with
          | nil => intro b h; exact h
          | cons z zs ih =>
            intro b h
            cases z with
            | d x => exact ih b h
            | v j =>
              rcases List.mem_append.mp h with h | h
              · by_cases q : j = i
                · simp [q] at h
                · exact List.mem_append_left _ (by simpa [q] using h)
              · exact List.mem_append_right _ (ih b h)
        have ow2 : ∀ (zs : List Ag) b, b ∈ owns G zs → b ∉ G i → b ∈ owns (fun j => if j = i then [] else G j) zs := by
          intro zs
          induction zs with
          | nil => intro b h _; exact h
          | cons z zs ih =>
            intro b h hn
            cases z with
            | d x => exact ih b h hn
            | v j =>
              rcases List.mem_append.mp h with h | h
              · by_cases q : j = i
                · rw [q] at h; exact absurd h hn
                · exact List.mem_append_left _ (by simpa [q] using h)
              · exact List.mem_append_right _ (ih b h hn)
        refine ⟨G', e'.lessM (M' := fun b => M b ∧ b ∉ owns G (.v i :: ys)) (fun b z => ?_) (fun j b hb => ?_), hs⟩
        · have z2 := z.2
          simp only [owns, List.mem_append, not_or] at z2
          exact ⟨⟨z.1, z2.1⟩, fun q => z2.2 (ow ys b q)⟩
        · have := e'.sub j b hb
          simp only [owns, List.mem_append, not_or]
          exact ⟨this.1.1, this.1.2, fun q => this.2 (ow2 ys b q this.1.2)⟩
/-- what a primitive leaves: all stays, its answer is new or of the operands' -/
structure Mk (K : PySem.W.Frag) (H : Hp) (M : Addr → Prop) (v : V) (x : Dt) (m : Md) (H' : Hp) (F : List Addr) : Prop where
  same : ∀ b o, H b = some o → H' b = some o
  new : ∀ b ∈ F, H b = none
  nd : F.Nodup
  rp : Rp K (fun b => M b ∨ b ∈ F) H' m v x F
/-- a rule over values tells what f does on data -/
def Pr (K : PySem.W.Frag) (rr : List V → Hp → VK → Prop) (f : List Dt → Option Vl) : Prop :=
  ∀ (M : Addr → Prop) (H : Hp) (vs : List V) (xs : List Dt) (x : Dt) (m : Md) (Q : VK), Hotty M H → CoL K M H vs xs → f xs = some (x, m) → (∀ v H' F, Mk K H M v x m H' F → Q v H') → rr vs H Q
def mP (f : List Dt → Option Vl) (as : List Am) : Ev → Ou Vl := fun r => match evA as r with
  | .ok ys r1 => match look r1 ys with
    | some xs => match f xs with
      | some (x, m) => .ok (x, m) (if x.flat then r1 else frz ys r1)
      | none => .no
    | none => .no
  | .ex c fs r1 => .ex c fs r1
  | .no => .no
theorem Mk.env {v : V} {x : Dt} {m : Md} {F : List Addr} {M1 : Addr → Prop} (e : ER K r σ G M H) (p : Mk K H M1 v x m H' F) :
    ER K r σ G (fun b => M b ∨ b ∈ F) H' ∧ Evo H M G H' (fun b => M b ∨ b ∈ F) G F ∧ ∀ b ∈ F, ¬ M b := by
  have nM : ∀ b ∈ F, ¬ M b := fun b hb z => by
    obtain ⟨xs, q, _⟩ := e.hot b z
    rw [p.new b hb] at q; cases q
  have ht' : Hotty (fun b => M b ∨ b ∈ F) H' := fun b z => by
    rcases z with z | z
    · obtain ⟨xs, q, ho⟩ := e.hot b z
      exact ⟨xs, p.same b _ q, ho⟩
    · exact p.rp.lists b z
  have gr : ∀ b, (M b ∨ b ∈ F) → M b ∨ H b = none := fun b z => by
    rcases z with z | z
    · exact .inl z
    · exact .inr (p.new b z)
  have dm : ∀ b, H' b = none → H b = none := fun b h => by
    cases q : H b with
    | none => rfl
    | some o =>
      rw [p.same b o q] at h
      cases h
  exact ⟨e.evoF (fun b o h _ => p.same b o h) gr (fun i b hb => .inl (e.sub i b hb)) ht', ⟨fun b o h _ => p.same b o h, dm, gr, fun b h _ => .inl h, fun i b h => .inl ⟨i, h⟩, fun b h => .inr (p.new b h)⟩, nM⟩
theorem Mk.px {v : V} {x : Dt} {m : Md} {F : List Addr} {G0 : Nat → List Addr} {M0 M1 : Addr → Prop} {H0 : Hp} (e : ER K r σ G M H) (ev : Evo H0 M0 G0 H M G []) (ht : Hotty M0 H0)
    (p : Mk K H M1 v x m H' F) (hx : x.flat = true) : PX K r σ H0 M0 G0 v x m H' (fun b => M b ∨ b ∈ F) G F := by
  obtain ⟨e', v2, nM⟩ := p.env e
  refine ⟨e', ev.trans ht v2, ?_, p.nd, fun b hb => ⟨.inr hb, fun i hi => nM b hb (e.sub i b hi)⟩⟩
  -- flat: no lists within
  cases m with
  | c =>
    have hh := (p.rp.1).ho hx
    exact ⟨(hh.cold (M := fun b => M b ∨ b ∈ F) fun b hb => nomatch hb), p.rp.2⟩
  | t =>
    obtain ⟨a, vs, xs, rfl, rfl, rfl, q, c⟩ := p.rp
    simp [Dt.flat] at hx
  | a => exact p.rp
/-- .. where the answer may share the operands' lists -/
theorem Mk.px2 {v : V} {x : Dt} {m : Md} {F : List Addr} {G0 : Nat → List Addr} {M0 : Addr → Prop} {H0 : Hp} (e : ER K r σ G M H) (ev : Evo H0 M0 G0 H M G []) (ht : Hotty M0 H0)
    (p : Mk K H M v x m H' F) : PX K r σ H0 M0 G0 v x m H' (fun b => M b ∨ b ∈ F) G F := by
  obtain ⟨e', v2, nM⟩ := p.env e
  exact ⟨e', ev.trans ht v2, p.rp, p.nd, fun b hb => ⟨.inr hb, fun i hi => nM b hb (e.sub i b hi)⟩⟩
/-- THE STEP for primitives: operands, then the rule over values -/
theorem mP_ok {rr : List V → Hp → VK → Prop} {f : List Dt → Option Vl} (hp : Pr K rr f) {as : List Am} {Q : VK} (h : tI K cl W (mP f as) σ H Q) : tOs K cl W as σ H fun vs H1 => rr vs H1 Q := by
  obtain ⟨r, M, G, e, h⟩ := h
  refine tOs_ok as e ?_
  simp only [mP] at h
  cases ha : evA as r with
  | no => rw [ha] at h; exact h
  | ex c fs r1 => rw [ha] at h; exact h
  | ok ys r1 =>
    rw [ha] at h
    simp only at h
    intro vs H1 M1 G1 e1 v1 a1
    cases hl : look r1 ys with
    | none => rw [hl] at h; exact h.elim
    | some xs =>
      rw [hl] at h
      simp only at h
      cases hf : f xs with
      | none => rw [hf] at h; exact h.elim
      | some xm =>
        obtain ⟨x, m⟩ := xm
        rw [hf] at h
        simp only at h
        have cc : CoL K (fun b => M1 b ∧ b ∉ owns G1 ys) H1 vs xs := look_cold e1 (fun b z => z.1) (fun b hb z => z.2 hb) a1 hl
        have ht1 : Hotty (fun b => M1 b ∧ b ∉ owns G1 ys) H1 := fun b z => e1.hot b z.1
        by_cases hx : x.flat = true
        · rw [if_pos hx] at h
          exact hp _ H1 vs xs x m Q ht1 cc hf fun v H2 F p => h v H2 _ _ F (p.px e1 v1 e.hot hx)
        · rw [if_neg hx] at h
          obtain ⟨G2, e2, s2⟩ := e1.frz ys
          have v2 : Evo H1 M1 G1 H1 (fun b => M1 b ∧ b ∉ owns G1 ys) G2 [] := ⟨fun _ _ h _ => h, fun _ h => h, fun b z => .inl z.1, fun b h hb => ⟨h, fun z => let ⟨i, q⟩ := mem_owns z; hb i q⟩, fun i b hb => .inl ⟨i, s2 i b hb⟩, fun _ h => nomatch h⟩
          exact hp _ H1 vs xs x m Q ht1 cc hf fun v H2 F p => h v H2 _ _ F (p.px2 e2 (v1.trans e.hot v2) e.hot)
end
end Y
namespace Y
open PySem L2
section
variable {X : Cx} {cl : Str → Addr} {W : WX} {K : PySem.W.Frag} {σ : L2.St} {H : Hp}
def mV (i : Nat) : Ev → Ou Vl := fun r => match r[i]? with
  | some (some (x, _)) => .ok (x, .c) (if x.flat then r else r.set i (some (x, .c)))
  | _ => .no
theorem tI_var {i : Nat} {Q : VK} (h : tI K cl W (mV i) σ H Q) : tVar i σ H Q := by
  obtain ⟨r, M, G, e, h⟩ := h
  simp only [mV] at h
  cases hr : r[i]? with
  | none => rw [hr] at h; exact h.elim
  | some o =>
    cases o with
    | none => rw [hr] at h; exact h.elim
    | some xm =>
      obtain ⟨x, m⟩ := xm
      rw [hr] at h
      simp only at h
      obtain ⟨v, hv, rp⟩ := e.at_ i x m hr
      refine ⟨v, hv, ?_⟩
      by_cases hx : x.flat = true
      · rw [if_pos hx] at h
        refine h v H M G [] ⟨e, .refl, ⟨?_, rfl⟩, List.nodup_nil, fun _ z => nomatch z⟩
        cases m with
        | c => exact rp.1
        | t =>
          obtain ⟨a, vs, xs, rfl, rfl, _⟩ := rp
          simp [Dt.flat] at hx
        | a => exact Ho.cold rp (by rw [Ho.flatE rp hx]; exact fun _ z => nomatch z)
      · rw [if_neg hx] at h
        have e2 := e.give hr
        obtain ⟨v', hv', rp'⟩ := e2.at_ i x .c (List.getElem?_set_self (List.getElem?_eq_some_iff.mp hr).1)
        rw [hv] at hv'; cases hv'
        refine h v H _ _ [] ⟨e2, ⟨fun _ _ h _ => h, fun _ h => h, fun b z => .inl z.1, fun b h hb => ⟨h, hb i⟩, fun j b hb => .inl ⟨j, ?_⟩, fun _ h => nomatch h⟩, ⟨rp'.1, rfl⟩, List.nodup_nil, fun _ z => nomatch z⟩
        by_cases q : j = i
        · simp [q] at hb
        · simpa [q] using hb
theorem je_v {e : Expr} (i : Nat) (h : PE X e (tVar i)) : JE X cl W e (mV i) := fun _ => h.yimp fun _ _ _ q => tI_var q
theorem jo_v {e : Expr} (i : Nat) (h : PE X e (tVar i)) : JO X cl W e (.v i) := h
theorem jo_e {e : Expr} {f : Ev → Ou Vl} (h : JE X cl W e f) : JO X cl W e (.e f) := h
def mK (x : Dt) : Ev → Ou Vl := fun r => .ok (x, .c) r
theorem je_k {e : Expr} {v : V} {x : Dt} (h : PE X e (tC v)) (c : ∀ M H, Co X.K M H v x) : JE X cl W e (mK x) := fun _ => h.yimp fun σ H Q ⟨r, M, G, e, q⟩ =>
  q v H M G [] ⟨e, .refl, ⟨c M H, rfl⟩, List.nodup_nil, fun _ z => nomatch z⟩
theorem je_int {i j pos} : JE X cl W (.Constant (.int i) j pos) (mK (.i i)) := je_k pe_int fun _ _ => .i i
theorem je_bl {i j pos} : JE X cl W (.Constant (.bool i) j pos) (mK (.b i)) := je_k pe_bl fun _ _ => .b i
theorem je_non {j pos} : JE X cl W (.Constant .none j pos) (mK .n) := je_k pe_non fun _ _ => .n
def ap1 (r : V → Hp → VK → Prop) : List V → Hp → VK → Prop
  | [x], H, Q => r x H Q
  | _, _, _ => False
def ap2 (r : R2) : List V → Hp → VK → Prop
  | [x, y], H, Q => r x y H Q
  | _, _, _ => False
theorem je_bin {a b : Expr} {op : Operator} {r : R2} {A B : Am} {pos : Pos} {f : List Dt → Option Vl} (ho : OpR X (binaryOp op) r) (hp : Pr X.K (ap2 r) f) (ha : JO X cl W a A) (hb : JO X cl W b B) :
    JE X cl W (.BinOp a op b pos) (mP f [A, B]) := fun tk => (pe_op ho (ha.pe tk) (hb.pe tk)).yimp fun _ _ _ q => mP_ok hp q
theorem je_un {a : Expr} {op : UnaryOp} {r : V → Hp → VK → Prop} {A : Am} {pos : Pos} {f : List Dt → Option Vl} (ho : UnR X (unaryOp op) r) (hp : Pr X.K (ap1 r) f) (ha : JO X cl W a A) :
    JE X cl W (.UnaryOp op a pos) (mP f [A]) := fun tk => (pe_un ho (ha.pe tk)).yimp fun _ _ _ q => mP_ok hp q
theorem je_cmp {a b : Expr} {op : CmpOp} {r : R2} {A B : Am} {pos : Pos} {f : List Dt → Option Vl} (ho : OpR X (compareOp op) r) (hm : behindInMarks op b = false) (hp : Pr X.K (ap2 r) f) (ha : JO X cl W a A) (hb : JO X cl W b B) :
    JE X cl W (.Compare a [op] [b] pos) (mP f [A, B]) := fun tk => (pe_cmpR ho (ha.pe tk) (hb.pe tk) hm).yimp fun _ _ _ q => mP_ok hp q
theorem je_ix {a b : Expr} {r : R2} {A B : Am} {pos : Pos} {f : List Dt → Option Vl} (ho : IxR X r) (hp : Pr X.K (ap2 r) f) (ha : JO X cl W a A) (hb : JO X cl W b B) (hs : PlainIx b) :
    JE X cl W (.Subscript a b pos) (mP f [A, B]) := fun tk => (pe_ix ho (ha.pe tk) (hb.pe tk) hs).yimp fun _ _ _ q => mP_ok hp q
inductive JA (X : Cx) (cl : Str → Addr) (W : WX) : List Expr → List Am → Prop
  | nil : JA X cl W [] []
  | cons {e : Expr} {es : List Expr} {a : Am} {as : List Am} : JO X cl W e a → starEach (e :: es) X.env = (false, eval e X.env) :: starEach es X.env → JA X cl W es as → JA X cl W (e :: es) (a :: as)
def tAs (K : PySem.W.Frag) (cl : Str → Addr) (W : WX) (as : List Am) : TA := tOs K cl W as
theorem JA.pa {es : List Expr} {as : List Am} (h : JA X cl W es as) (tk : Takes X W) : PA X es (tAs X.K cl W as) := by
  induction h with
  | nil => exact pa_nil
  | cons h1 h2 _ ih => exact pa_cons (h1.pe tk) ih h2
theorem ja_c {e : Expr} {es : List Expr} {a : Am} {as : List Am} (h : JO X cl W e a) (q : JA X cl W es as) (hs : starEach (e :: es) X.env = (false, eval e X.env) :: starEach es X.env := by rfl) : JA X cl W (e :: es) (a :: as) := .cons h hs q
theorem ja_n : JA X cl W [] [] := .nil
/-- a built-in's call by its name -/
theorem je_callB {id : String} {x : Str} {e : Expr} {es : List Expr} {r : List V → Hp → VK → Prop} {as : List Am} {p pos : Pos} {f : List Dt → Option Vl} (hc : CallR X (.builtin id) r) (hp : Pr X.K r f) (hg : Gl X x) (hm : X.mg x = none) (hv : bootBuiltins x = some (.builtin id))
    (ha : JA X cl W (e :: es) as) (hn : x ≠ "__name__" := by decide) (hdb : (x == ("__debug__" : Str)) = false := by decide) (he : starEach (e :: es) X.env = (false, eval e X.env) :: starEach es X.env := by rfl) (hpl : (backTo pos (starEach es X.env)).any (·.1) = false := by rfl) :
    JE X cl W (.Call (.Name x p) (e :: es) [] pos) (mP f as) := fun tk => (pe_callB hc hg hm hv (ha.pa tk) hn hdb he hpl).yimp fun _ _ _ q => mP_ok hp q
theorem je_callT {id : String} {x : Str} {e : Expr} {es : List Expr} {r : List V → Hp → VK → Prop} {as : List Am} {p pos : Pos} {f : List Dt → Option Vl} (hc : CallR X (.type id) r) (hp : Pr X.K r f) (hg : Gl X x) (hm : X.mg x = none) (hv : bootBuiltins x = some (.type id))
    (ha : JA X cl W (e :: es) as) (hn : x ≠ "__name__" := by decide) (hdb : (x == ("__debug__" : Str)) = false := by decide) (he : starEach (e :: es) X.env = (false, eval e X.env) :: starEach es X.env := by rfl) (hpl : (backTo pos (starEach es X.env)).any (·.1) = false := by rfl) :
    JE X cl W (.Call (.Name x p) (e :: es) [] pos) (mP f as) := fun tk => (pe_callTy hc hg hm hv (ha.pa tk) hn hdb he hpl).yimp fun _ _ _ q => mP_ok hp q
/-- tuples and lists written out -/
def rDisp (k : List V → HO) : List V → Hp → VK → Prop := fun vs H Q => vs.length ≤ sizeLine ∧ ∀ p, H p = none → Q (.ref p) (upd H p (k vs))
def LIM : Nat := 1000000
def fTup : List Dt → Option Vl := fun xs => if xs.length ≤ LIM then some (.t xs, .c) else none
def fLst : List Dt → Option Vl := fun xs => if xs.length ≤ LIM then some (.l xs, .t) else none
theorem lim_size {n : Nat} (h : n ≤ LIM) : n ≤ sizeLine := Nat.le_trans h (by decide)
theorem CoL.len {M : Addr → Prop} : ∀ {vs : List V} {xs : List Dt}, CoL K M H vs xs → vs.length = xs.length
  | _, _, .nil => rfl
  | _, _, .cons _ q => congrArg (· + 1) (CoL.len q)
theorem fm_new {M : Addr → Prop} (ht : Hotty M H) {p : Addr} {o : HO} (hp : H p = none) : Fm M H (fun b => M b ∨ b ∈ [p]) (upd H p o) :=
  ⟨fun b o e _ => by rw [upd_ne (ne_of_none e hp)]; exact e, fun b z => by
    exact z.elim .inl fun z => .inr (by rw [List.mem_singleton.mp z]; exact hp), ht⟩
theorem fm_new0 {M : Addr → Prop} (ht : Hotty M H) {p : Addr} {o : HO} (hp : H p = none) : Fm M H (fun b => M b ∨ b ∈ ([] : List Addr)) (upd H p o) :=
  ⟨fun b o e _ => by rw [upd_ne (ne_of_none e hp)]; exact e, fun b z => by
    exact z.elim .inl fun z => (nomatch z), ht⟩
theorem same_new {p : Addr} {o : HO} (hp : H p = none) : ∀ b u, H b = some u → upd H p o b = some u := fun b u e => by rw [upd_ne (ne_of_none e hp)]; exact e
/-- a new tuple | a new list of these -/
theorem mk_tup {M : Addr → Prop} (ht : Hotty M H) {p : Addr} {vs : List V} {xs : List Dt} (hp : H p = none) (c : CoL K M H vs xs) : Mk K H M (.ref p) (.t xs) .c (upd H p (.tup vs)) [] :=
  ⟨same_new hp, fun _ z => (nomatch z), List.nodup_nil, .t (.inl (.inl upd_same)) (c.fm (fm_new0 ht hp)), rfl⟩
theorem mk_lst {M : Addr → Prop} (ht : Hotty M H) {p : Addr} {vs : List V} {xs : List Dt} (hp : H p = none) (c : CoL K M H vs xs) : Mk K H M (.ref p) (.l xs) .t (upd H p (.lst vs)) [p] :=
  ⟨same_new hp, fun b z => by rw [List.mem_singleton.mp z]; exact hp, by simp, p, vs, xs, rfl, rfl, rfl, upd_same, c.fm (fm_new ht hp)⟩
theorem pr_tup : Pr K (rDisp .tup) fTup := fun M H vs xs x m Q ht c hf k => by
  simp only [fTup] at hf
  split at hf
  · rename_i h
    cases hf
    exact ⟨by rw [c.len]; exact lim_size h, fun p hp => k _ _ _ (mk_tup ht hp c)⟩
  · cases hf
theorem pr_lst : Pr K (rDisp .lst) fLst := fun M H vs xs x m Q ht c hf k => by
  simp only [fLst] at hf
  split at hf
  · rename_i h
    cases hf
    exact ⟨by rw [c.len]; exact lim_size h, fun p hp => k _ _ _ (mk_lst ht hp c)⟩
  · cases hf
theorem je_tup {es : List Expr} {as : List Am} {x1} {pos : Pos} (h : JA X cl W es as) : JE X cl W (.Tuple es x1 pos) (mP fTup as) := fun tk => (pe_tup (h.pa tk)).yimp fun _ _ _ q => mP_ok pr_tup q
theorem je_lst {es : List Expr} {as : List Am} {pos : Pos} (h : JA X cl W es as) : JE X cl W (.List es pos) (mP fLst as) := fun tk => (pe_lst (h.pa tk)).yimp fun _ _ _ q => mP_ok pr_lst q
def mTe (f : Ev → Ou Vl) : Ev → Ou Bool := fun r => match f r with
  | .ok (.b k, _) r' => .ok k r'
  | .ok _ _ => .no
  | .ex c fs r' => .ex c fs r'
  | .no => .no
theorem tI_te {f : Ev → Ou Vl} {Q : Bool → Hp → Prop} (h : tIB K cl W (mTe f) σ H Q) : tI K cl W f σ H fun v H' => ∃ k, v = .bl k ∧ Q k H' := by
  obtain ⟨r, M, G, e, h⟩ := h
  refine ⟨r, M, G, e, ?_⟩
  simp only [mTe] at h
  cases hf : f r with
  | no => rw [hf] at h; exact h
  | ex c fs r' => rw [hf] at h; exact h
  | ok xm r' =>
    obtain ⟨x, m⟩ := xm
    rw [hf] at h
    intro v H' M' G' F p
    cases x with
    | b k =>
      simp only at h
      obtain ⟨M2, e2, v2, c2⟩ := p.giveUp e.hot
      cases c2
      exact ⟨k, rfl, h H' M2 G' e2 v2⟩
    | _ => exact h.elim
theorem jt_val {e : Expr} {f : Ev → Ou Vl} (h : JE X cl W e f) (he : ∀ whole, isTrue e X.env whole = (do let v ← whole; standAt e.pos; holding [v] (truthy v)) := by intro _; rfl) : JT X cl W e (mTe f) := fun tk =>
  (pt_val (h tk) he).yimp fun _ _ _ q => tI_te q
theorem jt_cmp {a b : Expr} {op : CmpOp} {r : R2} {A B : Am} {pos : Pos} {f : List Dt → Option Vl} (ho : OpR X (compareOp op) r) (hm : behindInMarks op b = false) (hp : Pr X.K (ap2 r) f) (ha : JO X cl W a A) (hb : JO X cl W b B) :
    JT X cl W (.Compare a [op] [b] pos) (mTe (mP f [A, B])) := fun tk => (pt_cmpR ho (ha.pe tk) (hb.pe tk) hm).yimp fun _ _ _ q => mP_ok hp (tI_te q)
def mNot (f : Ev → Ou Bool) : Ev → Ou Bool := fun r => match f r with
  | .ok k r' => .ok (!k) r'
  | .ex c fs r' => .ex c fs r'
  | .no => .no
theorem jt_not {a : Expr} {f : Ev → Ou Bool} {pos : Pos} (h : JT X cl W a f) : JT X cl W (.UnaryOp .Not a pos) (mNot f) := fun tk => (pt_not (h tk)).yimp fun σ H Q ⟨r, M, G, e, q⟩ => by
  refine ⟨r, M, G, e, ?_⟩
  simp only [mNot] at q
  cases hf : f r with
  | no => rw [hf] at q; exact q
  | ex c fs r' => rw [hf] at q; exact q
  | ok k r' => rw [hf] at q; exact q
/-- one behind the other -/
def mAnd (f g : Ev → Ou Bool) : Ev → Ou Bool := fun r => match f r with
  | .ok true r' => g r'
  | .ok false r' => .ok false r'
  | .ex c fs r' => .ex c fs r'
  | .no => .no
def mOr (f g : Ev → Ou Bool) : Ev → Ou Bool := fun r => match f r with
  | .ok true r' => .ok true r'
  | .ok false r' => g r'
  | .ex c fs r' => .ex c fs r'
  | .no => .no
def JW (X : Cx) (cl : Str → Addr) (W : WX) (e : Expr) (f : Ev → Ou Bool) : Prop := Takes X W → PW X e (tIB X.K cl W f)
theorem _root_.L2.PW.yimp {X : Cx} {e : Expr} {t t' : TT} (h : PW X e t) (k : ∀ σ H Q, t' σ H Q → t σ H Q) : PW X e t' := ⟨fun wh pins s σ H Q I q => h.run wh pins s σ H Q I (k σ H Q q)⟩
theorem tIB_later {M M0 : Addr → Prop} {G G0 : Nat → List Addr} {H0 : Hp} {r : Ev} {g : Ev → Ou Bool} {Q : Bool → Hp → Prop} (ht : Hotty M0 H0) (e : ER K r σ G M H) (v : Evo H0 M0 G0 H M G [])
    (q : match g r with
      | .ok b r' => ∀ H' M' G', ER K r' σ G' M' H' → Evo H0 M0 G0 H' M' G' [] → Q b H'
      | .ex c fs r' => ∀ d H' M' G', XX K r' σ H0 M0 G0 fs d H' M' G' → W (.ref (cl c)) d σ H'
      | .no => False) : tIB K cl W g σ H Q := by
  refine ⟨r, M, G, e, ?_⟩
  cases hg : g r with
  | no => rw [hg] at q; exact q
  | ex c fs r' =>
    rw [hg] at q
    exact fun d H' M' G' p => q d H' M' G' ⟨p.er, v.trans ht p.ev, p.xd⟩
  | ok k r' =>
    rw [hg] at q
    exact fun H' M' G' e' v' => q H' M' G' e' (v.trans ht v')
theorem tIB_and {f g : Ev → Ou Bool} {Q : Bool → Hp → Prop} (h : tIB K cl W (mAnd f g) σ H Q) : tAnd (tIB K cl W f) (tIB K cl W g) σ H Q := by
  obtain ⟨r, M, G, e, q⟩ := h
  refine ⟨r, M, G, e, ?_⟩
  simp only [mAnd] at q
  cases hf : f r with
  | no => rw [hf] at q; exact q
  | ex c fs r' => rw [hf] at q; exact q
  | ok k r' =>
    rw [hf] at q
    intro H' M' G' e' v'
    cases k with
    | true => rw [if_pos rfl]; exact tIB_later e.hot e' v' q
    | false => rw [if_neg Bool.false_ne_true]; exact q H' M' G' e' v'
theorem tIB_or {f g : Ev → Ou Bool} {Q : Bool → Hp → Prop} (h : tIB K cl W (mOr f g) σ H Q) : tOr (tIB K cl W f) (tIB K cl W g) σ H Q := by
  obtain ⟨r, M, G, e, q⟩ := h
  refine ⟨r, M, G, e, ?_⟩
  simp only [mOr] at q
  cases hf : f r with
  | no => rw [hf] at q; exact q
  | ex c fs r' => rw [hf] at q; exact q
  | ok k r' =>
    rw [hf] at q
    intro H' M' G' e' v'
    cases k with
    | true => rw [if_pos rfl]; exact q H' M' G' e' v'
    | false => rw [if_neg Bool.false_ne_true]; exact tIB_later e.hot e' v' q
theorem jw_and1 {a : Expr} {f : Ev → Ou Bool} {pos : Pos} (h : JT X cl W a f) : JW X cl W (.BoolOp .And [a] pos) f := fun tk => pw_and1 (h tk)
theorem jw_or1 {a : Expr} {f : Ev → Ou Bool} {pos : Pos} (h : JT X cl W a f) : JW X cl W (.BoolOp .Or [a] pos) f := fun tk => pw_or1 (h tk)
theorem jw_and {a b : Expr} {rest : List Expr} {f g : Ev → Ou Bool} {pos : Pos} (h : JT X cl W a f) (q : JW X cl W (.BoolOp .And (b :: rest) pos) g) : JW X cl W (.BoolOp .And (a :: b :: rest) pos) (mAnd f g) := fun tk =>
  (pw_and (h tk) (q tk)).yimp fun _ _ _ z => tIB_and z
theorem jw_or {a b : Expr} {rest : List Expr} {f g : Ev → Ou Bool} {pos : Pos} (h : JT X cl W a f) (q : JW X cl W (.BoolOp .Or (b :: rest) pos) g) : JW X cl W (.BoolOp .Or (a :: b :: rest) pos) (mOr f g) := fun tk =>
  (pw_or (h tk) (q tk)).yimp fun _ _ _ z => tIB_or z
theorem jt_w {e : Expr} {f : Ev → Ou Bool} (h : JW X cl W e f) : JT X cl W e f := fun tk => (h tk).pt
theorem tI_later {M M0 : Addr → Prop} {G G0 : Nat → List Addr} {H0 : Hp} {r : Ev} {g : Ev → Ou Vl} {Q : VK} (ht : Hotty M0 H0) (e : ER K r σ G M H) (v : Evo H0 M0 G0 H M G [])
    (q : match g r with
      | .ok (x, m) r' => ∀ v H' M' G' F, PX K r' σ H0 M0 G0 v x m H' M' G' F → Q v H'
      | .ex c fs r' => ∀ d H' M' G', XX K r' σ H0 M0 G0 fs d H' M' G' → W (.ref (cl c)) d σ H'
      | .no => False) : tI K cl W g σ H Q := by
  refine ⟨r, M, G, e, ?_⟩
  cases hg : g r with
  | no => rw [hg] at q; exact q
  | ex c fs r' =>
    rw [hg] at q
    exact fun d H' M' G' p => q d H' M' G' ⟨p.er, v.trans ht p.ev, p.xd⟩
  | ok xm r' =>
    obtain ⟨x, m⟩ := xm
    rw [hg] at q
    exact fun w H' M' G' F p => q w H' M' G' F ⟨p.er, v.trans ht p.ev, p.rp, p.nd, p.hot⟩
def mIf (c : Ev → Ou Bool) (f g : Ev → Ou Vl) : Ev → Ou Vl := fun r => match c r with
  | .ok true r' => f r'
  | .ok false r' => g r'
  | .ex c fs r' => .ex c fs r'
  | .no => .no
theorem je_if {c a b : Expr} {fc : Ev → Ou Bool} {f g : Ev → Ou Vl} {pos : Pos} (hc : JT X cl W c fc) (ha : JE X cl W a f) (hb : JE X cl W b g) : JE X cl W (.IfExp c a b pos) (mIf fc f g) := fun tk =>
  (pe_ifExp (hc tk) (ha tk) (hb tk)).yimp fun σ H Q ⟨r, M, G, e, q⟩ => by
    refine ⟨r, M, G, e, ?_⟩
    simp only [mIf] at q
    cases hf : fc r with
    | no => rw [hf] at q; exact q
    | ex c fs r' => rw [hf] at q; exact q
    | ok k r' =>
      rw [hf] at q
      intro H' M' G' e' v'
      cases k with
      | true => rw [if_pos rfl]; exact tI_later e.hot e' v' q
      | false => rw [if_neg Bool.false_ne_true]; exact tI_later e.hot e' v' q
def mAndV (f g : Ev → Ou Vl) : Ev → Ou Vl := fun r => match f r with
  | .ok (.b true, _) r' => g r'
  | .ok (.b false, _) r' => .ok (.b false, .c) r'
  | .ok _ _ => .no
  | .ex c fs r' => .ex c fs r'
  | .no => .no
def mOrV (f g : Ev → Ou Vl) : Ev → Ou Vl := fun r => match f r with
  | .ok (.b true, _) r' => .ok (.b true, .c) r'
  | .ok (.b false, _) r' => g r'
  | .ok _ _ => .no
  | .ex c fs r' => .ex c fs r'
  | .no => .no
def mNotV (f : Ev → Ou Vl) : Ev → Ou Vl := fun r => match f r with
  | .ok (.b k, _) r' => .ok (.b (!k), .c) r'
  | .ok _ _ => .no
  | .ex c fs r' => .ex c fs r'
  | .no => .no
theorem px_bl {r : Ev} {H0 : Hp} {M M0 : Addr → Prop} {G G0 : Nat → List Addr} (k : Bool) (e : ER K r σ G M H) (v : Evo H0 M0 G0 H M G []) : PX K r σ H0 M0 G0 (.bl k) (.b k) .c H M G [] :=
  ⟨e, v, ⟨.b k, rfl⟩, List.nodup_nil, fun _ z => nomatch z⟩
theorem je_and {a b : Expr} {rest : List Expr} {f g : Ev → Ou Vl} {pos : Pos} (ha : JE X cl W a f) (hb : JE X cl W (.BoolOp .And (b :: rest) pos) g) : JE X cl W (.BoolOp .And (a :: b :: rest) pos) (mAndV f g) := fun tk =>
  (pe_and (ha tk) (hb tk)).yimp fun σ H Q ⟨r, M, G, e, q⟩ => by
    refine ⟨r, M, G, e, ?_⟩
    simp only [mAndV] at q
    cases hf : f r with
    | no => rw [hf] at q; exact q
    | ex c fs r' => rw [hf] at q; exact q
    | ok xm r' =>
      obtain ⟨x, m⟩ := xm
      rw [hf] at q
      intro v H' M' G' F p
      cases x with
      | b k =>
        obtain ⟨M2, e2, v2, c2⟩ := p.giveUp e.hot
        cases c2
        refine ⟨k, rfl, ?_⟩
        cases k with
        | true => rw [if_pos rfl]; exact tI_later e.hot e2 v2 q
        | false => rw [if_neg Bool.false_ne_true]; exact q _ _ _ _ _ (px_bl false e2 v2)
      | _ => exact q.elim
theorem je_one {a : Expr} {op : BoolOp} {f : Ev → Ou Vl} {pos : Pos} (ha : JE X cl W a f) : JE X cl W (.BoolOp op [a] pos) f := fun tk => pe_one (ha tk)
theorem je_not {a : Expr} {f : Ev → Ou Vl} {pos : Pos} (ha : JE X cl W a f) : JE X cl W (.UnaryOp .Not a pos) (mNotV f) := fun tk =>
  (pe_not (ha tk)).yimp fun σ H Q ⟨r, M, G, e, q⟩ => by
    refine ⟨r, M, G, e, ?_⟩
    simp only [mNotV] at q
    cases hf : f r with
    | no => rw [hf] at q; exact q
    | ex c fs r' => rw [hf] at q; exact q
    | ok xm r' =>
      obtain ⟨x, m⟩ := xm
      rw [hf] at q
      intro v H' M' G' F p
      cases x with
      | b k =>
        obtain ⟨M2, e2, v2, c2⟩ := p.giveUp e.hot
        cases c2
        exact ⟨k, rfl, q _ _ _ _ _ (px_bl _ e2 v2)⟩
      | _ => exact q.elim
end
end Y
namespace Y
open PySem L2 PyProof.Rows
structure Room (k : Nat) (A : Around) : Prop extends L2.Room k A where
  gd : A.guards = some []
theorem Room.mono {j k : Nat} {A : Around} (r : Room k A) (h : j ≤ k) : Room j A := ⟨r.toRoom.mono h, r.gd⟩
theorem Room.deeper {k : Nat} {A : Around} (r : Room (k + 1) A) (env : Env) : Room k (A.deeper env) := ⟨r.toRoom.deeper env, r.gd⟩
structure FnOk (P : Program) (w : World) (K : PySem.W.Frag) (mg : Str → Option Value) (base : Heap) (CX : CXT) (k : Nat) (f : Addr) (fd : FuncData) (ps : List Str) (sp : Sp) : Prop where
  len : ∀ as Hs Qs Es, sp as Hs Qs Es → as.length = ps.length
  run : ∀ (B : Around) (out : List Env) (st : Shared) (Hs : Hp) (ar : Args) (vals : List Value) (as : List V) (Qs : VK) (Es : XK), Room k B → Env0 P w K mg base B out st Hs → BindsTo st fd ar (ps.zip vals) → Vals as vals → sp as Hs Qs Es →
    codeAny (model P w) B (.call (.ref f) ar) (CR CX out P w Hs st Qs Es) st
section
variable {X : Cx} {CX : CXT} {k : Nat} {f : Addr} {fd : FuncData} {ps : List Str} {sp : Sp} {E : L2.St → XK} {x : Str} {p pos : Pos} {e : Expr} {es : List Expr} {t : TA}
/-- how a call's end is met by who called -/
theorem meets {pins : List (Addr × Obj)} {σ : L2.St} {H : Hp} {s s' : Shared} {Q : VK} {E : XK} {fl : Result} (I : Inv X pins σ H s) (hx : PassesAt CX X σ E) (h : CR CX X.stack X.prog X.w H s Q E fl s') :
    match fl with
    | .ok (.ret u) => EP X pins σ Q u s'
    | .ok _ => False
    | .error v => X.xe v s' := by
  match fl with
  | .error v => exact hx pins H s v s' I h
  | .ok (.ret u) => exact I.after h
  | .ok .next => exact (h : False)
  | .ok .brk => exact (h : False)
  | .ok .cont => exact (h : False)
theorem run_any {pins : List (Addr × Obj)} {σ : L2.St} {H : Hp} {s : Shared} {Q : VK} {E : XK} {ar : Args} {vals : List Value} {as : List V} (F : FnOk X.prog X.w X.K X.mg X.base CX k f fd ps sp) (hr : Room k X.A) (hx : PassesAt CX X σ E) (I : Inv X pins σ H s) (hb : BindsTo s fd ar (ps.zip vals)) (rv : Vals as vals) (h : sp as H Q E) :
    wpAny (model X.prog X.w) X.A (PySem.call (.ref f) ar.pos ar.kw) (EP X pins σ Q) X.xe s := by
  refine wpAny_call (codeAny_mono (F.run X.A X.stack s H ar vals as Q E hr I.env0 hb rv h) fun fl s' hq => ?_)
  have := meets I hx hq
  revert this
  match fl with
  | .error v => exact id
  | .ok (.ret u) => exact id
  | .ok .next => exact False.elim
  | .ok .brk => exact False.elim
  | .ok .cont => exact False.elim
theorem run_fnS {pins : List (Addr × Obj)} {σ : L2.St} {H : Hp} {s : Shared} {Q : VK} {us : List Value} {vs : List V} (F : FnOk X.prog X.w X.K X.mg X.base CX k f fd ps sp) (hr : Room k X.A) (hb : Binds X.K fd ps []) (hx : PassesAt CX X σ (E σ)) (I : Inv X pins σ H s) (rv : Vals vs us) (h : sp vs H Q (E σ)) :
    wpAny (model X.prog X.w) X.A (PySem.call (.ref f) us) (EP X pins σ Q) X.xe s := by
  have b := hb s us I.kIn (by rw [List.append_nil, ← rv.length]; exact F.len _ _ _ _ h)
  rw [List.append_nil] at b
  exact run_any (ar := ⟨us, []⟩) F hr hx I b rv h
theorem pe_callS (F : FnOk X.prog X.w X.K X.mg X.base CX k f fd ps sp) (hr : Room k X.A) (hg : Gl X x) (hm : X.mg x = some (.ref f)) (hk : PySem.W.keepIn X.K (.ref f) = true) (hb : Binds X.K fd ps []) (hx : ∀ σ, PassesAt CX X σ (E σ)) (ha : PA X (e :: es) t)
    (hdb : (x == ("__debug__" : Str)) = false := by decide) (he : starEach (e :: es) X.env = (false, eval e X.env) :: starEach es X.env := by rfl) (hpl : (backTo pos (starEach es X.env)).any (·.1) = false := by rfl) : PE X (.Call (.Name x p) (e :: es) [] pos) (tCallS sp E t) :=
  ⟨fun pins s σ H Q I h => wpAny_Call_Name_kw (ld_glob I hg hm (PySem.W.callWith_K (h₀ := X.base) I.ok.mod.kin hk (thn (ha.run pos pins s σ H _ I h) fun us s1 ⟨vs, H1, I1, r, q⟩ => ⟨I1.kIn, run_fnS F hr hb (hx σ) I1 r q⟩) he hpl) hdb)⟩
end
section
variable {P : Program} {w : World} {K : PySem.W.Frag} {mg : Str → Option Value} {base : Heap}
/-- a def by its body -/
theorem fn_by {CX : CXT} {k : Nat} {f : Addr} {name qual : Str} {params : Arguments} {body : List Stmt} {scope : Scope} {dV kV doc pm cdv ct oc : Value} {an od : Option Addr} {osl : Array (Option Value)} {N ps : List Str} {sp : Sp}
    (lk : K.lookup f = some ⟨oc, od, .func (PySem.W.fnOf name qual params body scope dV kV doc pm an cdv ct), osl⟩) (hcd : PySem.W.codeIn K cdv qual = true) (S : FnScope N ps scope) (len : ∀ as Hs Qs Es, sp as Hs Qs Es → as.length = ps.length)
    (go : ∀ (B : Around) (out : List Env) (st : Shared) (Hs : Hp) (as : List V) (Qs : VK) (Es : XK), Room k (B.deeper (envOfC qual scope st.heap.objs.size f cdv)) → sp as Hs Qs Es →
      ∃ t, PSs (cxOf CX P w K mg base N qual scope f cdv B out st Hs Es) body t ∧ t { nx := fun _ H' => Qs .non H', rt := Qs } (start N as) Hs) :
    FnOk P w K mg base CX (k + 1) f (PySem.W.fnOf name qual params body scope dV kV doc pm an cdv ct) ps sp where
  len := len
  run := by
    intro B out st Hs ar vals as Qs Es rm ev bd rv hsp
    have hl := len _ _ _ _ hsp
    have KX : K.In st.heap := ev.mod.kin.keeps fun b o q => (ev.bs b o q).1
    have lim : st.heap.NoLimit := ev.mod.nolimit.keeps fun b o q => (ev.bs b o q).1
    have kinds : ∀ y ∈ ps.zip vals, scope.names.lookup y.1 = some .local ∨ (scope.names.lookup y.1 = some .cell ∧ ((cellsFrom (st.heap.objs.size + 1) scope.names []).lookup y.1).isSome = true) := by
      rintro ⟨n, v⟩ hy
      exact (S.par n (List.of_mem_zip hy).1).elim .inl fun q => .inr ⟨q, PySem.W.cellsFrom_some _ _ _ (.inl q)⟩
    refine codeAny_call_function rm.depth (KX _ _ lk) rfl S.co S.gen rfl (PySem.W.codeRec_of KX hcd) (bd _ _ _ _ (wpAny_newFunctionEnv_cells S.kind kinds fun env he s1 ic => ?_))
    subst he
    refine ⟨lim.keeps ic.toInCall.keep, codeAny_func ?_⟩
    obtain ⟨t, ht, hq⟩ := go B out st Hs as Qs Es (rm.deeper _) hsp
    have I := inv_start (CX := CX) (E := Es) S rm.hd ev hl rv ic
    have fin : ∀ {σ' : L2.St} {H' : Hp} {s' : Shared} {v : V} {u : Value}, Inv (cxOf CX P w K mg base N qual scope f cdv B out st Hs Es) [] σ' H' s' → RelV v u → Qs v H' → CE out P w Hs st Qs u s' := by
      intro σ' H' s' v u J rv q
      exact ⟨v, H', J.os, J.bare, J.base, J.hok, rv, q⟩
    refine wpAny_mono (ht.run [] s1 (start N as) Hs _ I hq) (fun fl s' hs => ?_) fun _ _ z => z
    match fl, hs with
    | .ret u, ⟨v, _, _, J, r, q⟩ => exact fin J r q
    | .next, ⟨_, _, J, q⟩ => exact fin (v := V.non) (u := Value.none) J rfl q
    | .brk, ⟨_, _, _, q⟩ => exact q.elim
    | .cont, ⟨_, _, _, q⟩ => exact q.elim
theorem fn_okX {x qual : Str} {st : Stmt} {f : Addr} {fd : FuncData} {N ps : List Str} {k : Nat} {sp : Sp} (F : Fun K x qual st f fd) (S : FnScope N ps (defScope st)) (len : ∀ as Hs Qs Es, sp as Hs Qs Es → as.length = ps.length)
    (go : ∀ (cdv : Value) (B : Around) (out : List Env) (s : Shared) (Hs : Hp) (as : List V) (Qs : VK) (Es : XK), Room k (B.deeper (envOfC qual (defScope st) s.heap.objs.size f cdv)) → sp as Hs Qs Es →
      ∃ t, PSs (cxOf (L2.CX P w) P w K mg base N qual (defScope st) f cdv B out s Hs Es) (defBody st) t ∧ t { nx := fun _ H' => Qs .non H', rt := Qs } (start N as) Hs) : FnOk P w K mg base (L2.CX P w) (k + 1) f fd ps sp := by
  obtain ⟨_, _, _, _, _, _, cdv, _, _, rfl, lk, hcd⟩ := F.ex
  exact fn_by lk hcd S len fun B out s Hs as Qs Es rm hsp => go cdv B out s Hs as Qs Es rm hsp
end
/-- the head's own call -/
theorem head_call {P : Program} {w : World} {K : PySem.W.Frag} {mg mb : Str → Option Value} {CX : CXT} {k : Nat} {fa a : Addr} {fd : FuncData} {x : Str} {sp : Sp} {s₁ : Shared} {vs : List Value} {ns : List Int} (KX : K.In s₁.heap) (hns : s₁.heap.Ns mainGlobals mg) (hb : s₁.heap.Ns builtinsNs mb)
    (hbb : ∀ x : Str, x ≠ "__name__" → mb x = bootBuiltins x) (hlim : s₁.heap.NoLimit) (hg : s₁.gens = #[]) (ha : s₁.heap.get? a = some { cls := .type "list", data := .seq vs.toArray }) (hi : IntsAre vs ns) (hl : ns.length ≤ sizeLine) (hr : Room k callerA)
    (F : ∀ base : Heap, K.In base → base.Ns mainGlobals mg → FnOk P w K mg base CX k fa fd [x] sp) (hbind : ∀ (s : Shared) (u : Value), BindsTo s fd ⟨[u], []⟩ [(x, u)]) (hsp : ∀ H : Hp, Only H → SqL K H a (ns.map V.int) → sp [.ref a] H (fun v _ => v = .bl true) fun _ _ _ => False) (hCX : ∀ H e s', CX [] H s₁ (fun _ _ _ => False) e s' → False) :
    codeAny (model P w) callerA (.call (.ref fa) ⟨[.ref a], []⟩) (fun r s' => r = .ok (.ret (.bool true)) ∧ OldK s₁.heap s'.heap ∧ s'.os = s₁.os ∧ AllBare s'.gens) s₁ := by
  have rv := vals_ints hi
  have lenV := hi.length
  have core : ∀ H : Hp, Only H → SqL K H a (ns.map V.int) → HOk P w H s₁.heap → (∀ b, H b ≠ none → b = a) → (H a ≠ none → K.lookup a = none) → codeAny (model P w) callerA (.call (.ref fa) ⟨[.ref a], []⟩) (fun r s' => r = .ok (.ret (.bool true)) ∧ OldK s₁.heap s'.heap ∧ s'.os = s₁.os ∧ AllBare s'.gens) s₁ := by
    intro H hO hS hok hA hK
    have notA : ∀ {b : Addr} {o : Obj} {es : Array DictEntry} {ep : Nat}, s₁.heap.get? b = some o → o.data = .dict es ep → H b = none := by
      intro b o es ep h1 h2
      rcases hq : H b with _ | u
      · rfl
      · have hba : b = a := hA b (by simp [hq])
        rw [hba, ha] at h1
        cases h1
        cases (h2 : Data.seq vs.toArray _ = Data.dict es ep)
    have nsK : ∀ {b : Addr} {m : Str → Option Value}, s₁.heap.Ns b m → (hidT s₁.heap H).Ns b m := by
      rintro b m ⟨o, es, ep, h1, h2, h3⟩
      exact ⟨o, es, ep, hidT_get h1 (notA h1 h2), h2, h3⟩
    have hKb : K.In (hidT s₁.heap H) := by
      intro b o h1
      refine hidT_get (KX b o h1) ?_
      rcases hq : H b with _ | u
      · rfl
      · have hba : b = a := hA b (by simp [hq])
        rw [hba, hK (by rw [← hba]; simp [hq])] at h1
        cases h1
    have hM : Mod K mg (hidT s₁.heap H) := ⟨hKb, nsK hns, ⟨mb, nsK hb, hbb⟩, hlim.elim fun mc z => ⟨mc, nsK z.1, z.2⟩⟩
    have ev : Env0 P w K mg (hidT s₁.heap H) callerA [] s₁ H := ⟨rfl, hM, fun b o q => of_hidT q, Nat.le_of_eq (hidT_size _ _), trivial, fun b z => (nomatch (show b ∈ ([] : List Addr) from z)), hok, .of_eq hg⟩
    refine codeAny_mono ((F _ hKb (nsK hns)).run callerA [] s₁ H ⟨[.ref a], []⟩ [.ref a] [.ref a] _ _ hr ev (hbind s₁ (.ref a)) (.cons rfl .nil) (hsp H hO hS)) fun r s' h => ?_
    match r, h with
    | .error v, h => exact (hCX H v s' h).elim
    | .ok .next, h => exact (h : False).elim
    | .ok .brk, h => exact (h : False).elim
    | .ok .cont, h => exact (h : False).elim
    | .ok (.ret u), ⟨v, H', os, bare, un, hok', r', q⟩ =>
      obtain rfl : v = V.bl true := q
      obtain rfl : u = Value.bool true := r'
      refine ⟨rfl, OldK.of_keep fun b o h1 => ?_, os, bare⟩
      rcases hq : H b with _ | u
      · exact un.keep b o h1 hq (fun z => nomatch (show b ∈ ([] : List Addr) from z)) (by simp)
      · rcases hO b with z | ⟨ob, xs, z⟩
        · rw [hq] at z; cases z
        · obtain ⟨e1, _⟩ := hok b _ z
          obtain ⟨e2, _⟩ := hok' b _ (un.frzs b ob _ z)
          rw [h1] at e1; cases e1
          exact e2
  rcases hk : K.lookup a with _ | o
  · refine core (fun b => if b = a then some (.frz { cls := .type "list", data := .seq vs.toArray } (.lst (ns.map V.int))) else none) (fun b => ?_) (.inl (.inr ⟨{ cls := .type "list", data := .seq vs.toArray }, if_pos rfl⟩)) (fun b u z => ?_) (fun b z => ?_) fun _ => hk
    all_goals by_cases hba : b = a
    · exact .inr ⟨_, _, if_pos hba⟩
    · exact .inl (if_neg hba)
    · cases (if_pos hba).symm.trans z
      subst hba
      exact ⟨ha, by rw [List.length_map]; exact hl, vs, _, rv, ha⟩
    · cases (if_neg hba).symm.trans z
    · exact hba
    · exact (z (if_neg hba)).elim
  · have q := KX a o hk
    rw [ha] at q
    cases q
    exact core (fun _ => none) (fun _ => .inl rfl) (.inr ⟨_, vs.toArray, _, hk, rfl, rfl, rfl, by rw [List.size_toArray, lenV]; exact hl, by simpa using rv⟩) (fun b u z => nomatch (show (none : Option HO) = some u from z)) (fun b z => absurd rfl z) fun z => absurd rfl z
theorem walk_ofG {l : PySem.W.OpenLaw} {n k : Nat} {q : Program} {loose : List Str} {XP : (Str → Option Value) → Heap → Prop} {YP : World → Heap → Prop} {d : DefRec} {K : Params → PySem.W.Frag} {CX : World → CXT} {sp : World → Sp} {x : Str} (hn : l.most = some n) (hn2 : n ≤ sizeLine) (hdf : d.params.defaults = []) (hr : L2.Room k callerA)
    (hY : ∀ (w : World) (h : Heap), YP w h → (K w.params).In h) (F : ∀ (w : World) (mg : Str → Option Value) (fa : Addr) (h : Heap), (K w.params).In h → h.Ns mainGlobals mg → mg d.name = some (.ref fa) → ∃ fd : FuncData, (∀ (s : Shared) (u : Value), BindsTo s fd ⟨[u], []⟩ [(x, u)]) ∧ (∀ y ∈ lamNames, PySem.W.nsIn (K w.params) mainGlobals y = some none) ∧ ∀ base : Heap, (K w.params).In base → base.Ns mainGlobals mg → FnOk l.prog w (K w.params) mg base (CX w) k fa fd [x] (sp w))
    (hsp : ∀ (w : World), (∀ y ∈ lamNames, PySem.W.nsIn (K w.params) mainGlobals y = some none) → ∀ (H : Hp) (a : Addr) (ns : List Int), ns.length ≤ n → (∀ z ∈ ns, Builtin.Int.intBits z ≤ 1048576) → Only H → SqL (K w.params) H a (ns.map V.int) → sp w [.ref a] H (fun v _ => v = .bl true) fun _ _ _ => False) (hCX : ∀ (w : World) (H : Hp) (s : Shared) (e : Value) (s' : Shared), CX w [] H s (fun _ _ _ => False) e s' → False) :
    PySem.W.WalkO q loose XP YP l.row.toRowW d [] (fun f vs => PySem.call f vs) :=
  Att.attach_callB hn hdf fun w s₀ s₁ mg mb fa o pm cd doc a vs ns G yy ho hd hcd hmg hobj hints hlen hbits hg => (F w mg fa _ (hY w _ yy) G.T.g hmg).elim fun fd ⟨hb, hNL, hF⟩ =>
    head_call (hY w _ yy) G.T.g G.T.b G.T.builtins G.T.nolimit hg hobj hints (Nat.le_trans hlen hn2) ⟨hr, rfl⟩ hF hb (fun H hO hS => hsp w hNL H a ns hlen hbits hO hS) fun H e s' => hCX w H s₁ e s'
end Y
namespace Y
open PySem L2
/-- a def on data: what it hands back, and what its first argument is then (where it may change it) -/
inductive Fo where
  | rt (x : Vl) (z : Vl) | ex (c : Str) (fs : List (Str × Dt)) (z : Vl) | no
abbrev Fn := List Vl → Fo
def ioE : Bool → Vl → Ev
  | true, z => [some z]
  | false, _ => []
def ioS : Bool → List V → L2.St
  | true, vs => (vs.map some).take 1
  | false, _ => []
def spY (K : PySem.W.Frag) (cl : Str → Addr) (io : Bool) (n : Nat) (f : Fn) : Sp := fun vs H Q E => vs.length = n ∧ ∃ (xs : List Vl) (M : Addr → Prop) (G : Nat → List Addr), ER K (xs.map some) (vs.map some) G M H ∧ (∀ i, (io = true → i ≠ 0) → G i = []) ∧
  match f xs with
  | .rt (x, m) z => ∀ v H' M' G' F, PX K (ioE io z) (ioS io vs) H M G v x m H' M' G' F → Q v H'
  | .ex c fs z => ∀ d H' M' G', XX K (ioE io z) (ioS io vs) H M G fs d H' M' G' → E (.ref (cl c)) d H'
  | .no => False
def cold (xs : List Dt) : List Vl := xs.map fun x => (x, .c)
def flatF (fs : List (Str × Dt)) : Bool := flatL (fs.map (·.2))
section
variable {K : PySem.W.Frag} {cl : Str → Addr} {W : WX} {M M' : Addr → Prop} {H H' : Hp} {G G' : Nat → List Addr} {r r' : Ev} {σ : L2.St}
theorem CoL.get : ∀ {vs : List V} {xs : List Dt} {i : Nat} {x : Dt}, CoL K M H vs xs → xs[i]? = some x → ∃ v, vs[i]? = some v ∧ Co K M H v x
  | _, _, _, _, .nil, e => by simp at e
  | _, _, 0, _, .cons h _, e => by simp at e; subst e; exact ⟨_, rfl, h⟩
  | _, _, i + 1, x, .cons _ q, e => by
    obtain ⟨v, h1, h2⟩ := CoL.get (i := i) (x := x) q (by simpa using e)
    exact ⟨v, by simpa using h1, h2⟩
theorem ER.ofCold {vs : List V} {xs : List Dt} (ht : Hotty M H) (tb : TabsK K H) (c : CoL K M H vs xs) : ER K ((cold xs).map some) (vs.map some) (fun _ => []) M H := by
  refine ⟨by simp [cold, c.len], fun i x m h => ?_, fun _ _ => rfl, fun _ => List.nodup_nil, fun _ _ _ _ h => (nomatch h), fun _ _ h => (nomatch h), ht, tb⟩
  simp only [cold, List.map_map, List.getElem?_map, Option.map_eq_some_iff] at h
  obtain ⟨y, h1, h2⟩ := h
  simp only [Function.comp] at h2
  cases h2
  obtain ⟨v, h3, h4⟩ := c.get h1
  exact ⟨v, by simp [h3], h4, rfl⟩
/-- one more in front -/
theorem ER.cons {vs : List V} {xs : List Dt} {v0 : V} {x0 : Dt} {m0 : Md} {F0 : List Addr} (ht : Hotty M H) (tb : TabsK K H) (c : CoL K M H vs xs) (h : Rp K M H m0 v0 x0 F0) (nd : F0.Nodup) (k : ∀ b ∈ F0, M b) :
    ER K (((x0, m0) :: cold xs).map some) ((v0 :: vs).map some) (fun i => if i = 0 then F0 else []) M H := by
  have e := ER.ofCold ht tb c
  refine ⟨by simpa using e.len, fun i x m hi => ?_, fun i hi => ?_, fun i => ?_, fun i j hne b hb => ?_, fun i b hb => ?_, ht, tb⟩
  · cases i with
    | zero =>
      simp at hi
      obtain ⟨rfl, rfl⟩ := hi
      exact ⟨v0, by simp, by simpa using h⟩
    | succ i =>
      obtain ⟨v, h1, h2⟩ := e.at_ i x m (by simpa using hi)
      exact ⟨v, by simpa using h1, by simpa using h2⟩
  · cases i with
    | zero => exact absurd (by simp) (hi x0 m0)
    | succ i => simp
  · cases i with
    | zero => simpa using nd
    | succ i => simp
  · cases i with
    | zero => cases j with
      | zero => exact absurd rfl hne
      | succ j => simp
    | succ i => simp at hb
  · cases i with
    | zero => exact k b (by simpa using hb)
    | succ i => simp at hb
theorem Rp.flatAny {m : Md} {v : V} {x : Dt} {F : List Addr} (h : Rp K M H m v x F) (hx : x.flat = true) : Rp K M' H m v x F := by
  cases m with
  | c => exact ⟨(h.1.ho hx).cold fun b z => (nomatch z), h.2⟩
  | t =>
    obtain ⟨a, vs, xs, rfl, rfl, _⟩ := h
    simp [Dt.flat] at hx
  | a => exact h
theorem CoL.flatAny {vs : List V} {xs : List Dt} (h : CoL K M H vs xs) (hx : flatL xs = true) : CoL K M' H vs xs := (h.ho hx).cold fun b z => (nomatch z)
theorem XdOk.flatAny {d : Option Addr} {fs : List (Str × Dt)} (h : XdOk K M H d fs) (hx : flatF fs = true) : XdOk K M' H d fs := by
  cases fs with
  | nil => exact h
  | cons f fs =>
    obtain ⟨dx, vs, h1, h2, h3, h4⟩ := h
    exact ⟨dx, vs, h1, h2, h3, h4.flatAny hx⟩
/-- what is said of a callee's end with an environment besides: B the lists lent to it (cold there) -/
theorem after {B : List Addr} {M3 : Addr → Prop} {H2 : Hp} {Gc G3 : Nat → List Addr} {F : List Addr} (e : ER K r σ G M H) (ev : Evo H (fun b => M b ∧ b ∉ B) Gc H2 M3 G3 F) (ht3 : Hotty M3 H2) (tb3 : TabsK K H2)
    (dj : ∀ i b, b ∈ G i → ∀ j, b ∉ Gc j) (sub : ∀ j b, b ∈ Gc j → M b) (hB : ∀ b ∈ B, M b ∧ ∀ j, b ∉ Gc j) :
    ER K r σ G (fun b => M3 b ∨ b ∈ B) H2 ∧ ∀ b, b ∈ F → (∀ i, b ∉ G i) := by
  have gr : ∀ b, (M3 b ∨ b ∈ B) → M b ∨ H b = none := fun b z => by
    rcases z with z | z
    · rcases ev.grow b z with z | z
      · exact .inl z.1
      · exact .inr z
    · exact .inl (hB b z).1
  refine ⟨e.evoW tb3 (fun b o h k {nt} => ev.pres b o h (fun j hj => ?_) nt) gr (fun i b hb => ?_) fun b z => ?_, fun b hb i hi => ?_⟩
  · rcases k with k | ⟨i, k⟩
    · exact k (sub j b hj)
    · exact dj i b k j hj
  · by_cases q : b ∈ B
    · exact .inr q
    · exact .inl (ev.keep b ⟨e.sub i b hb, q⟩ (dj i b hb))
  · rcases z with z | z
    · exact ht3 b z
    · obtain ⟨xs, q, ho⟩ := e.hot b (hB b z).1
      exact ⟨xs, ev.pres b _ q (hB b z).2, ho⟩
  · obtain ⟨xs, q, _⟩ := e.hot b (e.sub i b hi)
    rcases ev.res b hb with ⟨j, z⟩ | z
    · exact dj i b hi j z
    · rw [q] at z; cases z
theorem owns_sub (e : ER K r σ G M H) {ys : List Ag} : ∀ b ∈ owns G ys, M b := fun b hb => let ⟨i, h⟩ := mem_owns hb; e.sub i b h
theorem AgL.len {us : List V} {zs : List Ag} (q : AgL K M H σ us zs) : us.length = zs.length := by
  induction q with
  | nil => rfl
  | d _ _ ih => simp [ih]
  | v _ _ ih => simp [ih]
theorem evA_len : ∀ (bs : List Am) {r r' : Ev} {zs : List Ag}, evA bs r = .ok zs r' → zs.length = bs.length := by
  intro bs
  induction bs with
  | nil => intro r r' zs q; simp [evA] at q; simp [← q.1]
  | cons b bs ih =>
    intro r r' zs q
    cases b with
    | e f =>
      simp only [evA] at q
      split at q
      · split at q
        · rename_i h; cases q; simp [ih h]
        · cases q
        · cases q
      · cases q
      · cases q
    | v i =>
      simp only [evA] at q
      split at q
      · split at q
        · rename_i h; cases q; simp [ih h]
        · cases q
        · cases q
      · cases q
theorem evA_v {i : Nat} {as : List Am} {r r' : Ev} {zs : List Ag} (q : evA (.v i :: as) r = .ok zs r') : ∃ ys, zs = .v i :: ys := by
  simp only [evA] at q
  split at q
  · split at q
    · cases q; exact ⟨_, rfl⟩
    · cases q
    · cases q
  · cases q
/-- nothing lent is held by it -/
def zfl : Vl → Bool
  | (x, .c) => x.flat
  | (.l xs, .t) => flatL xs
  | (x, .t) => x.flat
  | (_, .a) => true
theorem Rp.zfl {x : Dt} {m : Md} {v : V} {F : List Addr} (h : Rp K M H m v x F) (hz : zfl (x, m) = true) : Rp K M' H m v x F := by
  cases m with
  | c => exact h.flatAny (by simpa [Y.zfl] using hz)
  | t =>
    obtain ⟨a, vs, xs, h1, rfl, h2, h3, c⟩ := h
    exact ⟨a, vs, xs, h1, rfl, h2, h3, c.flatAny (by simpa [Y.zfl] using hz)⟩
  | a => exact h
/-- a call that changes no argument -/
def mC (fn : Fn) (as : List Am) : Ev → Ou Vl := fun r => match evA as r with
  | .ok ys r1 => match look r1 ys with
    | some xs => match fn (cold xs) with
      | .rt (x, m) _ => .ok (x, m) (if zfl (x, m) then r1 else frz ys r1)
      | .ex c fs _ => if flatF fs then .ex c fs r1 else .no
      | .no => .no
    | none => .no
  | .ex c fs r1 => .ex c fs r1
  | .no => .no
theorem evo_lent {B : List Addr} {M3 : Addr → Prop} {H2 : Hp} {G3 : Nat → List Addr} {F : List Addr} (hB : ∀ b ∈ B, M b ∧ ∃ i, b ∈ G i) (ev : Evo H (fun b => M b ∧ b ∉ B) (fun _ => []) H2 M3 G3 F) : Evo H M G H2 (fun b => M3 b ∨ b ∈ B) G F :=
  ⟨fun b o h _ => ev.pres b o h fun _ z => (nomatch z), ev.dom, fun b z => by
    rcases z with z | z
    · exact (ev.grow b z).imp And.left id
    · exact .inl (hB b z).1, fun b h hb => .inl (ev.keep b ⟨h, fun z => let ⟨i, q⟩ := (hB b z).2; hb i q⟩ fun _ z => (nomatch z)), fun i b h => .inl ⟨i, h⟩, fun b h => .inr ((ev.res b h).elim (fun ⟨_, z⟩ => (nomatch z)) id)⟩
theorem evo_lent2 {B : List Addr} {M3 : Addr → Prop} {H2 : Hp} {G2 G3 : Nat → List Addr} {F : List Addr} (hB : ∀ b ∈ B, M b ∧ ∃ i, b ∈ G i) (hG : ∀ i b, b ∈ G2 i → b ∈ G i) (ev : Evo H (fun b => M b ∧ b ∉ B) (fun _ => []) H2 M3 G3 F) : Evo H M G H2 M3 G2 F :=
  ⟨fun b o h _ => ev.pres b o h fun _ z => (nomatch z), ev.dom, fun b z => (ev.grow b z).imp And.left id, fun b h hb => ev.keep b ⟨h, fun z => let ⟨i, q⟩ := (hB b z).2; hb i q⟩ fun _ z => (nomatch z), fun i b h => .inl ⟨i, hG i b h⟩, fun b h => .inr ((ev.res b h).elim (fun ⟨_, z⟩ => (nomatch z)) id)⟩
theorem mC_ok {n : Nat} {fn : Fn} {as : List Am} {Q : VK} (hn : as.length = n) (h : tI K cl W (mC fn as) σ H Q) : tOs K cl W as σ H fun vs H1 => spY K cl false n fn vs H1 Q (WE W σ) := by
  obtain ⟨r, M, G, e, h⟩ := h
  refine tOs_ok as e ?_
  simp only [mC] at h
  cases ha : evA as r with
  | no => rw [ha] at h; exact h
  | ex c fs r1 => rw [ha] at h; exact h
  | ok ys r1 =>
    rw [ha] at h
    simp only at h
    intro vs H1 M1 G1 e1 v1 a1
    cases hl : look r1 ys with
    | none => rw [hl] at h; exact h.elim
    | some xs =>
      rw [hl] at h
      simp only at h
      have cc : CoL K (fun b => M1 b ∧ b ∉ owns G1 ys) H1 vs xs := look_cold e1 (fun b z => z.1) (fun b hb z => z.2 hb) a1 hl
      have ht1 : Hotty (fun b => M1 b ∧ b ∉ owns G1 ys) H1 := fun b z => e1.hot b z.1
      have hB : ∀ b ∈ owns G1 ys, M1 b ∧ ∃ i, b ∈ G1 i := fun b hb => ⟨owns_sub e1 b hb, mem_owns hb⟩
      have hlen : vs.length = n := by rw [← hn, a1.len, evA_len as ha]
      refine ⟨hlen, cold xs, _, fun _ => [], ER.ofCold ht1 e1.tab cc, fun _ _ => rfl, ?_⟩
      cases hf : fn (cold xs) with
      | no => rw [hf] at h; exact h
      | rt xm z =>
        obtain ⟨x, m⟩ := xm
        rw [hf] at h
        simp only at h
        intro v H2 M3 G3 F p
        by_cases hx : zfl (x, m) = true
        · rw [if_pos hx] at h
          obtain ⟨e2, f2⟩ := after e1 p.ev p.er.hot p.er.tab (fun _ _ _ _ z => nomatch z) (fun _ _ z => nomatch z) fun b hb => ⟨owns_sub e1 b hb, fun _ z => nomatch z⟩
          exact h v H2 _ G1 F ⟨e2, v1.trans e.hot (evo_lent hB p.ev), p.rp.zfl hx, p.nd, fun b hb => ⟨.inl (p.hot b hb).1, f2 b hb⟩⟩
        · rw [if_neg hx] at h
          obtain ⟨G2, e2, s2⟩ := e1.frz ys
          have ev' : Evo H1 (fun b => (M1 b ∧ b ∉ owns G1 ys) ∧ b ∉ ([] : List Addr)) (fun _ => []) H2 M3 G3 F :=
            ⟨p.ev.pres', p.ev.dom, fun b z => (p.ev.grow b z).imp (fun q => ⟨q, by simp⟩) id, fun b z => p.ev.keep b z.1, p.ev.env, p.ev.res⟩
          obtain ⟨e3, f3⟩ := after (B := []) e2 ev' p.er.hot p.er.tab (fun _ _ _ _ z => nomatch z) (fun _ _ z => nomatch z) fun b hb => nomatch hb
          have e3' : ER K (frz ys r1) σ G2 M3 H2 := e3.lessM (fun b z => .inl z) fun i b hb => (e3.sub i b hb).elim id fun z => nomatch z
          exact h v H2 _ G2 F ⟨e3', v1.trans e.hot (evo_lent2 hB s2 p.ev), p.rp, p.nd, fun b hb => ⟨(p.hot b hb).1, f3 b hb⟩⟩
      | ex c fs z =>
        rw [hf] at h
        simp only at h
        intro d H2 M3 G3 p
        by_cases hx : flatF fs = true
        · rw [if_pos hx] at h
          obtain ⟨e2, f2⟩ := after e1 p.ev p.er.hot p.er.tab (fun _ _ _ _ z => nomatch z) (fun _ _ z => nomatch z) fun b hb => ⟨owns_sub e1 b hb, fun _ z => nomatch z⟩
          exact h d H2 _ G1 ⟨e2, v1.trans e.hot (evo_lent hB p.ev), p.xd.flatAny hx⟩
        · rw [if_neg hx] at h
          exact h.elim
theorem Rp.toA {x : Dt} {m : Md} {v : V} {F : List Addr} (h : Rp K M H m v x F) (hz : Y.zfl (x, m) = true) : Ho K H v x F := by
  cases m with
  | c =>
    obtain ⟨z1, z2⟩ := h
    rw [z2]; exact z1.ho (by simpa [Y.zfl] using hz)
  | t =>
    obtain ⟨a, vs, xs, rfl, rfl, rfl, h3, c⟩ := h
    exact .l h3 (c.ho (by simpa [Y.zfl] using hz))
  | a => exact h
/-- a call that may change its first argument, a variable -/
def mCI (fn : Fn) (i : Nat) (as : List Am) : Ev → Ou Vl := fun r => match evA (.v i :: as) r with
  | .ok ys r1 => match r1[i]? with
    | some (some xm) => match look (r1.set i none) ys.tail with
      | some xs => match fn (xm :: cold xs) with
        | .rt (x, m) z => .ok (x, m) ((if zfl (x, m) && zfl z then r1.set i none else frz ys.tail (r1.set i none)).set i (some z))
        | .ex c fs z => if flatF fs && zfl z then .ex c fs ((r1.set i none).set i (some z)) else .no
        | .no => .no
      | none => .no
    | _ => .no
  | .ex c fs r1 => .ex c fs r1
  | .no => .no
theorem set_id {i : Nat} {v : V} (hv : σ[i]? = some (some v)) : σ.set i (some v) = σ := by
  apply List.ext_getElem?
  intro j
  by_cases q : i = j
  · subst q; rw [List.getElem?_set_self (List.getElem?_eq_some_iff.mp hv).1, hv]
  · rw [List.getElem?_set_ne q]
theorem Rp.lessM {m : Md} {v : V} {x : Dt} {F : List Addr} (h : Rp K M H m v x F) (q : ∀ b, M' b → M b) (ht : Hotty M H) : Rp K M' H m v x F := by
  cases m with
  | c => exact ⟨h.1.less q ht, h.2⟩
  | t => obtain ⟨a, vs, xs, rfl, rfl, rfl, e, c⟩ := h; exact ⟨a, vs, xs, rfl, rfl, rfl, e, c.less q ht⟩
  | a => exact h
/-- the first argument's new state is put back -/
theorem put_back {i : Nat} {v0 : V} {M3 : Addr → Prop} {H2 : Hp} {G2 : Nat → List Addr} {F : List Addr} {x : Dt} {m : Md} (hv : σ[i]? = some (some v0)) (e : ER K r σ G2 M3 H2) (rp : Rp K M3 H2 m v0 x F) (nd : F.Nodup) (k : ∀ b ∈ F, M3 b ∧ ∀ j, b ∉ G2 j) :
    ER K (r.set i (some (x, m))) σ (fun j => if j = i then F else G2 j) M3 H2 := by
  have := e.put (i := i) (v := v0) rp nd k (List.getElem?_eq_some_iff.mp hv).1
  rwa [set_id hv] at this
theorem PX.first {v0 : V} {z : Vl} {M0 : Addr → Prop} {H0 : Hp} {G0 : Nat → List Addr} {v : V} {x : Dt} {m : Md} {F : List Addr} (p : PX K [some z] [some v0] H0 M0 G0 v x m H M G F) : Rp K M H z.2 v0 z.1 (G 0) := by
  obtain ⟨w, h1, h2⟩ := p.er.at_ 0 z.1 z.2 rfl
  simp at h1
  subst h1
  exact h2
theorem callI_core {n : Nat} {fn : Fn} {i : Nat} {r1 : Ev} {G1 : Nat → List Addr} {M1 : Addr → Prop} {H1 : Hp} {v0 : V} {vs : List V} {ys : List Ag} {x0 : Dt} {m0 : Md} {xs : List Dt} {Q : VK} {E : XK} (e1 : ER K r1 σ G1 M1 H1) (hlen : (v0 :: vs).length = n) (hv : σ[i]? = some (some v0)) (a1 : AgL K M1 H1 σ vs ys) (hr : r1[i]? = some (some (x0, m0))) (hl : look (r1.set i none) ys = some xs)
    (h : match fn ((x0, m0) :: cold xs) with
      | .rt (x, m) z => ∀ v H2 M2 G2 F, PX K ((if zfl (x, m) && zfl z then r1.set i none else frz ys (r1.set i none)).set i (some z)) σ H1 M1 G1 v x m H2 M2 G2 F → Q v H2
      | .ex c fs z => if flatF fs && zfl z then ∀ d H2 M2 G2, XX K ((r1.set i none).set i (some z)) σ H1 M1 G1 fs d H2 M2 G2 → E (.ref (cl c)) d H2 else False
      | .no => False) : spY K cl true n fn (v0 :: vs) H1 Q E := by
  obtain ⟨v0', hv', rp0⟩ := e1.at_ i x0 m0 hr
  rw [hv] at hv'; cases hv'
  have ed := e1.drop i
  generalize hGd : (fun j => if j = i then ([] : List Addr) else G1 j) = Gd at ed
  have gd : ∀ j b, b ∈ Gd j → j ≠ i ∧ b ∈ G1 j := fun j b hb => by
    rw [← hGd] at hb
    by_cases q : j = i
    · simp [q] at hb
    · exact ⟨q, by simpa [q] using hb⟩
  have gdi : ∀ j b, b ∈ Gd j → b ∉ G1 i := fun j b hb => let ⟨q, z⟩ := gd j b hb; e1.dj j i q b z
  have cc : CoL K (fun b => M1 b ∧ b ∉ owns Gd ys) H1 vs xs := look_cold ed (fun b z => z.1) (fun b hb z => z.2 hb) a1 hl
  have ht1 : Hotty (fun b => M1 b ∧ b ∉ owns Gd ys) H1 := fun b z => e1.hot b z.1
  have ow : ∀ b ∈ owns Gd ys, b ∉ G1 i := fun b hb => let ⟨j, q⟩ := mem_owns hb; gdi j b q
  have ec := ER.cons (v0 := v0) (x0 := x0) (m0 := m0) (F0 := G1 i) ht1 e1.tab cc (rp0.lessM (fun b z => z.1) e1.hot) (e1.nd i) fun b hb => ⟨e1.sub i b hb, fun z => ow b z hb⟩
  refine ⟨hlen, (x0, m0) :: cold xs, _, _, ec, fun j hj => if_neg (hj rfl), ?_⟩
  -- what the callee's frame says of the rest
  have rest : ∀ {M3 : Addr → Prop} {H2 : Hp} {G3 : Nat → List Addr} {F : List Addr}, Evo H1 (fun b => M1 b ∧ b ∉ owns Gd ys) (fun j => if j = 0 then G1 i else []) H2 M3 G3 F → Hotty M3 H2 → TabsK K H2 →
      (ER K (r1.set i none) σ Gd (fun b => M3 b ∨ b ∈ owns Gd ys) H2 ∧ (∀ b, b ∈ F → ∀ j, b ∉ Gd j) ∧ (∀ b, b ∈ G3 0 → ∀ j, b ∉ Gd j)) := fun {M3 H2 G3 F} ev ht3 tb3 => by
    obtain ⟨e2, f2⟩ := after ed ev ht3 tb3 (fun j b hb l hb2 => by
      cases l with
      | zero => exact gdi j b hb (by simpa using hb2)
      | succ l => simp at hb2) (fun l b hb => by
      cases l with
      | zero => exact e1.sub i b (by simpa using hb)
      | succ l => simp at hb) fun b hb => ⟨(owns_sub ed b hb), fun l z => by
      cases l with
      | zero => exact ow b hb (by simpa using z)
      | succ l => simp at z⟩
    refine ⟨e2, f2, fun b hb j hj => ?_⟩
    rcases ev.env 0 b hb with ⟨l, z⟩ | z
    · cases l with
      | zero => exact gdi j b hj (by simpa using z)
      | succ l => simp at z
    · obtain ⟨zs, q, _⟩ := ed.hot b (ed.sub j b hj)
      rw [q] at z; cases z
  have evs : ∀ {M3 : Addr → Prop} {H2 : Hp} {G3 : Nat → List Addr} {F : List Addr} {M4 : Addr → Prop} {G4 : Nat → List Addr}, Evo H1 (fun b => M1 b ∧ b ∉ owns Gd ys) (fun j => if j = 0 then G1 i else []) H2 M3 G3 F →
      (∀ b, M4 b → M3 b ∨ b ∈ owns Gd ys) → (∀ b, M3 b → M4 b) → (∀ b ∈ owns Gd ys, M4 b ∨ True) → (∀ j b, b ∈ G4 j → b ∈ G1 j ∨ b ∈ G3 0) → Evo H1 M1 G1 H2 M4 G4 F := fun {M3 H2 G3 F M4 G4} ev m4 m3 _ g4 => by
    have noi : ∀ b, (∀ j, b ∉ G1 j) → ∀ l, b ∉ (fun j => if j = 0 then G1 i else []) l := fun b hb l z => by
      cases l with
      | zero => exact hb i (by simpa using z)
      | succ l => simp at z
    have frm : ∀ {b : Addr}, ((∃ j, b ∈ (fun j => if j = 0 then G1 i else []) j) ∨ H1 b = none) → (∃ j, b ∈ G1 j) ∨ H1 b = none := fun {b} z => z.imp (fun ⟨l, q⟩ => by
      cases l with
      | zero => exact ⟨i, by simpa using q⟩
      | succ l => simp at q) id
    refine ⟨fun b o h hb => ev.pres b o h (noi b hb), ev.dom, fun b z => ?_, fun b h hb => ?_, fun j b hb => ?_, fun b hb => frm (ev.res b hb)⟩
    · rcases m4 b z with z | z
      · exact (ev.grow b z).imp And.left id
      · exact .inl (owns_sub ed b z)
    · exact m3 b (ev.keep b ⟨h, fun z => let ⟨j, q⟩ := mem_owns z; hb j (gd j b q).2⟩ (noi b hb))
    · rcases g4 j b hb with q | q
      · exact .inl ⟨j, q⟩
      · exact frm (ev.env 0 b q)
  cases hf : fn ((x0, m0) :: cold xs) with
  | no => rw [hf] at h; exact h
  | rt xm z =>
    obtain ⟨x, m⟩ := xm
    obtain ⟨zx, zm⟩ := z
    rw [hf] at h
    simp only at h
    intro v H2 M3 G3 F p
    have p : PX K [some (zx, zm)] [some v0] H1 (fun b => M1 b ∧ b ∉ owns Gd ys) (fun j => if j = 0 then G1 i else []) v x m H2 M3 G3 F := p
    obtain ⟨e2, f2, g2⟩ := rest p.ev p.er.hot p.er.tab
    have rpz := p.first
    by_cases hx : (zfl (x, m) && zfl (zx, zm)) = true
    · rw [if_pos hx] at h
      rw [Bool.and_eq_true] at hx
      have e3 := put_back hv e2 (rpz.zfl hx.2) (p.er.nd 0) fun b hb => ⟨.inl (p.er.sub 0 b hb), g2 b hb⟩
      refine h v H2 _ _ F ⟨e3, (evs p.ev (fun b z => z) (fun b z => .inl z) (fun _ _ => .inr trivial) fun j b hb => ?_), p.rp.zfl hx.1, p.nd, fun b hb => ⟨.inl (p.hot b hb).1, fun j hj => ?_⟩⟩
      · by_cases q : j = i
        · simp only [if_pos q] at hb; exact .inr hb
        · simp only [if_neg q] at hb; exact .inl (gd j b hb).2
      · by_cases q : j = i
        · simp only [if_pos q] at hj; exact (p.hot b hb).2 0 hj
        · simp only [if_neg q] at hj; exact f2 b hb j hj
    · rw [if_neg hx] at h
      obtain ⟨Gf, ef, sf⟩ := ed.frz ys
      have ev' : Evo H1 (fun b => (M1 b ∧ b ∉ owns Gd ys) ∧ b ∉ ([] : List Addr)) (fun j => if j = 0 then G1 i else []) H2 M3 G3 F :=
        ⟨p.ev.pres', p.ev.dom, fun b z => (p.ev.grow b z).imp (fun q => ⟨q, by simp⟩) id, fun b z => p.ev.keep b z.1, p.ev.env, p.ev.res⟩
      obtain ⟨e3, f3⟩ := after (B := []) ef ev' p.er.hot p.er.tab (fun j b hb l hb2 => by
        cases l with
        | zero => exact gdi j b (sf j b hb) (by simpa using hb2)
        | succ l => simp at hb2) (fun l b hb => by
        cases l with
        | zero => have hb : b ∈ G1 i := by simpa using hb
                  exact ⟨e1.sub i b hb, fun z => ow b z hb⟩
        | succ l => simp at hb) fun b hb => nomatch hb
      have e3' : ER K (frz ys (r1.set i none)) σ Gf M3 H2 := e3.lessM (fun b z => .inl z) fun j b hb => (e3.sub j b hb).elim id fun z => nomatch z
      have e4 := put_back hv e3' rpz (p.er.nd 0) fun b hb => ⟨p.er.sub 0 b hb, fun j hj => g2 b hb j (sf j b hj)⟩
      refine h v H2 _ _ F ⟨e4, (evs p.ev (fun b z => .inl z) (fun b z => z) (fun _ _ => .inr trivial) fun j b hb => ?_), p.rp, p.nd, fun b hb => ⟨(p.hot b hb).1, fun j hj => ?_⟩⟩
      · by_cases q : j = i
        · simp only [if_pos q] at hb; exact .inr hb
        · simp only [if_neg q] at hb; exact .inl (gd j b (sf j b hb)).2
      · by_cases q : j = i
        · simp only [if_pos q] at hj; exact (p.hot b hb).2 0 hj
        · simp only [if_neg q] at hj; exact f3 b hb j hj
  | ex c fs z =>
    obtain ⟨zx, zm⟩ := z
    rw [hf] at h
    simp only at h
    intro d H2 M3 G3 p
    have p : XX K [some (zx, zm)] [some v0] H1 (fun b => M1 b ∧ b ∉ owns Gd ys) (fun j => if j = 0 then G1 i else []) fs d H2 M3 G3 := p
    by_cases hx : (flatF fs && zfl (zx, zm)) = true
    · rw [if_pos hx] at h
      rw [Bool.and_eq_true] at hx
      obtain ⟨e2, f2, g2⟩ := rest p.ev p.er.hot p.er.tab
      obtain ⟨w, hw1, rpz⟩ := p.er.at_ 0 zx zm rfl
      simp at hw1
      subst hw1
      have e3 := put_back hv e2 (rpz.zfl hx.2) (p.er.nd 0) fun b hb => ⟨.inl (p.er.sub 0 b hb), g2 b hb⟩
      refine h d H2 _ _ ⟨e3, (evs p.ev (fun b z => z) (fun b z => .inl z) (fun _ _ => .inr trivial) fun j b hb => ?_), p.xd.flatAny hx.1⟩
      by_cases q : j = i
      · simp only [if_pos q] at hb; exact .inr hb
      · simp only [if_neg q] at hb; exact .inl (gd j b hb).2
    · rw [if_neg hx] at h
      exact h.elim
theorem mCI_ok {n : Nat} {fn : Fn} {i : Nat} {as : List Am} {Q : VK} (hn : as.length + 1 = n) (h : tI K cl W (mCI fn i as) σ H Q) : tOs K cl W (.v i :: as) σ H fun vs H1 => spY K cl true n fn vs H1 Q (WE W σ) := by
  obtain ⟨r, M, G, e, h⟩ := h
  refine tOs_ok (.v i :: as) e ?_
  simp only [mCI] at h
  cases ha : evA (.v i :: as) r with
  | no => rw [ha] at h; exact h
  | ex c fs r1 => rw [ha] at h; exact h
  | ok ys0 r1 =>
    rw [ha] at h
    obtain ⟨ys, rfl⟩ := evA_v ha
    simp only [List.tail_cons] at h
    intro vs0 H1 M1 G1 e1 v1 a1
    have hlen : vs0.length = n := by rw [← hn, a1.len, evA_len _ ha]; rfl
    cases a1 with
    | @v v0 vs _ _ hv a1 =>
    cases hr : r1[i]? with
    | none => rw [hr] at h; exact h.elim
    | some o =>
      cases o with
      | none => rw [hr] at h; exact h.elim
      | some xm =>
        obtain ⟨x0, m0⟩ := xm
        rw [hr] at h
        simp only at h
        cases hl : look (r1.set i none) ys with
        | none => rw [hl] at h; exact h.elim
        | some xs =>
          rw [hl] at h
          simp only at h
          refine callI_core e1 hlen hv a1 hr hl ?_
          cases hf : fn ((x0, m0) :: cold xs) with
          | no => rw [hf] at h; exact h
          | rt xm z =>
            obtain ⟨x, m⟩ := xm
            rw [hf] at h
            exact fun v H2 M2 G2 F p => h v H2 M2 G2 F ⟨p.er, v1.trans e.hot p.ev, p.rp, p.nd, p.hot⟩
          | ex c fs z =>
            rw [hf] at h
            simp only at h ⊢
            by_cases hx : (flatF fs && zfl z) = true
            · rw [if_pos hx] at h ⊢
              exact fun d H2 M2 G2 p => h d H2 M2 G2 ⟨p.er, v1.trans e.hot p.ev, p.xd⟩
            · rw [if_neg hx] at h
              exact h.elim
end
section
variable {X : Cx} {cl : Str → Addr} {W : WX}
theorem je_call {k : Nat} {f : Addr} {fd : FuncData} {ps : List Str} {n : Nat} {fn : Fn} {x : Str} {p pos : Pos} {e : Expr} {es : List Expr} {as : List Am} (F : FnOk X.prog X.w X.K X.mg X.base (L2.CX X.prog X.w) k f fd ps (spY X.K cl false n fn)) (hr : Room k X.A)
    (hm : X.mg x = some (.ref f)) (hk : PySem.W.keepIn X.K (.ref f) = true) (hb : Binds X.K fd ps []) (ha : JA X cl W (e :: es) as) (hn : as.length = n := by rfl) (hg : Gl X x := by rfl) (hdb : (x == ("__debug__" : Str)) = false := by decide)
    (he : starEach (e :: es) X.env = (false, eval e X.env) :: starEach es X.env := by rfl) (hpl : (backTo pos (starEach es X.env)).any (·.1) = false := by rfl) : JE X cl W (.Call (.Name x p) (e :: es) [] pos) (mC fn as) := fun tk =>
  (pe_callS F hr hg hm hk hb (fun σ => passAt tk σ) (ha.pa tk) hdb he hpl).yimp fun _ _ _ q => mC_ok hn q
theorem je_callI {k : Nat} {f : Addr} {fd : FuncData} {ps : List Str} {n : Nat} {fn : Fn} {i : Nat} {x : Str} {p pos : Pos} {e : Expr} {es : List Expr} {as : List Am} (F : FnOk X.prog X.w X.K X.mg X.base (L2.CX X.prog X.w) k f fd ps (spY X.K cl true n fn)) (hr : Room k X.A)
    (hm : X.mg x = some (.ref f)) (hk : PySem.W.keepIn X.K (.ref f) = true) (hb : Binds X.K fd ps []) (ha : JA X cl W (e :: es) (.v i :: as)) (hn : as.length + 1 = n := by rfl) (hg : Gl X x := by rfl) (hdb : (x == ("__debug__" : Str)) = false := by decide)
    (he : starEach (e :: es) X.env = (false, eval e X.env) :: starEach es X.env := by rfl) (hpl : (backTo pos (starEach es X.env)).any (·.1) = false := by rfl) : JE X cl W (.Call (.Name x p) (e :: es) [] pos) (mCI fn i as) := fun tk =>
  (pe_callS F hr hg hm hk hb (fun σ => passAt tk σ) (ha.pa tk) hdb he hpl).yimp fun _ _ _ q => mCI_ok hn q
end
end Y
namespace Y
open PySem L2
inductive So where
  | nx (r : Ev) | rt (x : Vl) (r : Ev) | bk (r : Ev) | ct (r : Ev) | ex (c : Str) (fs : List (Str × Dt)) (r : Ev) | no
/-- a statement's end; io: the first slot stays as it is (the argument that may be changed) -/
structure SX (K : PySem.W.Frag) (io : Bool) (r' : Ev) (σ σ' : L2.St) (H : Hp) (M : Addr → Prop) (G : Nat → List Addr) (H' : Hp) (M' : Addr → Prop) (G' : Nat → List Addr) : Prop where
  er : ER K r' σ' G' M' H'
  ev : Evo H M G H' M' G' []
  pin : io = true → σ'[0]? = σ[0]?
structure RX (K : PySem.W.Frag) (io : Bool) (r' : Ev) (σ σ' : L2.St) (H : Hp) (M : Addr → Prop) (G : Nat → List Addr) (v : V) (x : Dt) (m : Md) (H' : Hp) (M' : Addr → Prop) (G' : Nat → List Addr) (F : List Addr) : Prop where
  px : PX K r' σ' H M G v x m H' M' G' F
  pin : io = true → σ'[0]? = σ[0]?
structure EX (K : PySem.W.Frag) (io : Bool) (r' : Ev) (σ σ' : L2.St) (H : Hp) (M : Addr → Prop) (G : Nat → List Addr) (fs : List (Str × Dt)) (d : Option Addr) (H' : Hp) (M' : Addr → Prop) (G' : Nat → List Addr) : Prop where
  xx : XX K r' σ' H M G fs d H' M' G'
  pin : io = true → σ'[0]? = σ[0]?
/-- what is wanted of a statement's ends -/
def sEnd (K : PySem.W.Frag) (cl : Str → Addr) (W : WX) (io : Bool) (D : Ends) (σ : L2.St) (H : Hp) (M : Addr → Prop) (G : Nat → List Addr) : So → Prop
  | .nx r' => ∀ σ' H' M' G', SX K io r' σ σ' H M G H' M' G' → D.nx σ' H'
  | .bk r' => ∀ σ' H' M' G', SX K io r' σ σ' H M G H' M' G' → D.bk σ' H'
  | .ct r' => ∀ σ' H' M' G', SX K io r' σ σ' H M G H' M' G' → D.ct σ' H'
  | .rt (x, m) r' => ∀ v σ' H' M' G' F, RX K io r' σ σ' H M G v x m H' M' G' F → D.rt v H'
  | .ex c fs r' => ∀ d σ' H' M' G', EX K io r' σ σ' H M G fs d H' M' G' → W (.ref (cl c)) d σ' H'
  | .no => False
def tIS (K : PySem.W.Frag) (cl : Str → Addr) (W : WX) (io : Bool) (g : Ev → So) : TS := fun D σ H => ∃ r M G, ER K r σ G M H ∧ sEnd K cl W io D σ H M G (g r)
def JS (X : Cx) (cl : Str → Addr) (W : WX) (io : Bool) (st : Stmt) (g : Ev → So) : Prop := Takes X W → PS X st (tIS X.K cl W io g)
def JB (X : Cx) (cl : Str → Addr) (W : WX) (io : Bool) (sts : List Stmt) (g : Ev → So) : Prop := Takes X W → PSs X sts (tIS X.K cl W io g)
theorem _root_.L2.PS.yimp {X : Cx} {e : Stmt} {t t' : TS} (h : PS X e t) (k : ∀ D σ H, t' D σ H → t D σ H) : PS X e t' := ⟨fun pins s σ H D I q => h.run pins s σ H D I (k D σ H q)⟩
theorem _root_.L2.PSs.yimp {X : Cx} {e : List Stmt} {t t' : TS} (h : PSs X e t) (k : ∀ D σ H, t' D σ H → t D σ H) : PSs X e t' := ⟨fun pins s σ H D I q => h.run pins s σ H D I (k D σ H q)⟩
section
variable {K : PySem.W.Frag} {cl : Str → Addr} {W : WX} {io : Bool} {M M' M0 : Addr → Prop} {H H' H0 : Hp} {G G' G0 : Nat → List Addr} {r r' : Ev} {σ σ0 : L2.St} {D : Ends}
/-- from an earlier state -/
theorem sEnd.back (ht : Hotty M0 H0) (ev : Evo H0 M0 G0 H M G []) (pin : io = true → σ[0]? = σ0[0]?) : ∀ {o : So}, sEnd K cl W io D σ0 H0 M0 G0 o → sEnd K cl W io D σ H M G o
  | .nx r', h => fun σ' H' M' G' p => h σ' H' M' G' ⟨p.er, ev.trans ht p.ev, fun i => (p.pin i).trans (pin i)⟩
  | .bk r', h => fun σ' H' M' G' p => h σ' H' M' G' ⟨p.er, ev.trans ht p.ev, fun i => (p.pin i).trans (pin i)⟩
  | .ct r', h => fun σ' H' M' G' p => h σ' H' M' G' ⟨p.er, ev.trans ht p.ev, fun i => (p.pin i).trans (pin i)⟩
  | .rt (x, m) r', h => fun v σ' H' M' G' F p => h v σ' H' M' G' F ⟨⟨p.px.er, ev.trans ht p.px.ev, p.px.rp, p.px.nd, p.px.hot⟩, fun i => (p.pin i).trans (pin i)⟩
  | .ex c fs r', h => fun d σ' H' M' G' p => h d σ' H' M' G' ⟨⟨p.xx.er, ev.trans ht p.xx.ev, p.xx.xd⟩, fun i => (p.pin i).trans (pin i)⟩
  | .no, h => h
theorem sEnd.mono {D' : Ends} (hn : ∀ σ H, D.nx σ H → D'.nx σ H) (hr : ∀ v H, D.rt v H → D'.rt v H) (hb : ∀ σ H, D.bk σ H → D'.bk σ H) (hc : ∀ σ H, D.ct σ H → D'.ct σ H) : ∀ {o : So}, sEnd K cl W io D σ H M G o → sEnd K cl W io D' σ H M G o
  | .nx r', h => fun σ' H' M' G' p => hn _ _ (h σ' H' M' G' p)
  | .bk r', h => fun σ' H' M' G' p => hb _ _ (h σ' H' M' G' p)
  | .ct r', h => fun σ' H' M' G' p => hc _ _ (h σ' H' M' G' p)
  | .rt (x, m) r', h => fun v σ' H' M' G' F p => hr _ _ (h v σ' H' M' G' F p)
  | .ex c fs r', h => h
  | .no, h => h
/-- an expression, then something of it -/
def sWith (f : Ev → Ou Vl) (k : Vl → Ev → So) : Ev → So := fun r => match f r with
  | .ok x r' => k x r'
  | .ex c fs r' => .ex c fs r'
  | .no => .no
theorem tIS_with {f : Ev → Ou Vl} {k : Vl → Ev → So} {Q : VK} (h : tIS K cl W io (sWith f k) D σ H)
    (q : ∀ r M G x m r' v H' M' G' F, ER K r σ G M H → PX K r' σ H M G v x m H' M' G' F → sEnd K cl W io D σ H M G (k (x, m) r') → Q v H') : tI K cl W f σ H Q := by
  obtain ⟨r, M, G, e, h⟩ := h
  refine ⟨r, M, G, e, ?_⟩
  simp only [sWith] at h
  cases hf : f r with
  | no => rw [hf] at h; exact h
  | ex c fs r' =>
    rw [hf] at h
    exact fun d H' M' G' p => h d σ H' M' G' ⟨p, fun _ => rfl⟩
  | ok xm r' =>
    obtain ⟨x, m⟩ := xm
    rw [hf] at h
    exact fun v H' M' G' F p => q r M G x m r' v H' M' G' F e p h
end
section
variable {X : Cx} {cl : Str → Addr} {W : WX} {io : Bool}
def sSeq (f g : Ev → So) : Ev → So := fun r => match f r with
  | .nx r' => g r'
  | o => o
def sNx : Ev → So := fun r => .nx r
theorem jb_nil : JB X cl W io [] sNx := fun _ => pss_nil.yimp fun D σ H ⟨r, M, G, e, h⟩ => h σ H M G ⟨e, .refl, fun _ => rfl⟩
theorem tIS_seq {K : PySem.W.Frag} {f g : Ev → So} {D : Ends} {σ : L2.St} {H : Hp} (h : tIS K cl W io (sSeq f g) D σ H) : tIS K cl W io f { D with nx := tIS K cl W io g D } σ H := by
  obtain ⟨r, M, G, e, h⟩ := h
  refine ⟨r, M, G, e, ?_⟩
  simp only [sSeq] at h
  cases hf : f r with
  | nx r' =>
    rw [hf] at h
    exact fun σ' H' M' G' p => ⟨r', M', G', p.er, h.back e.hot p.ev p.pin⟩
  | rt x r' => rw [hf] at h; exact h
  | bk r' => rw [hf] at h; exact h
  | ct r' => rw [hf] at h; exact h
  | ex c fs r' => rw [hf] at h; exact h
  | no => rw [hf] at h; exact h
theorem jb_c {st : Stmt} {sts : List Stmt} {f g : Ev → So} (h : JS X cl W io st f) (q : JB X cl W io sts g) : JB X cl W io (st :: sts) (sSeq f g) := fun tk =>
  (pss_cons (h tk) (q tk)).yimp fun _ _ _ z => tIS_seq z
theorem jb_1 {st : Stmt} {f : Ev → So} (h : JS X cl W io st f) : JB X cl W io [st] f := fun tk => pss_one (h tk)
def sNo : Ev → So := fun _ => .no
theorem js_never {st : Stmt} : JS X cl W io st sNo := fun _ => ps_never.yimp fun D σ H ⟨r, M, G, e, h⟩ => h
def sBk : Ev → So := fun r => .bk r
def sCt : Ev → So := fun r => .ct r
def sRet (f : Ev → Ou Vl) : Ev → So := sWith f fun x r => .rt x r
theorem js_ret {e : Expr} {f : Ev → Ou Vl} {pos : Pos} (h : JE X cl W e f) : JS X cl W io (.Return (some e) pos) (sRet f) := fun tk => (ps_ret (h tk)).yimp fun D σ H q =>
  tIS_with q fun r M G x m r' v H' M' G' F e p k => k v σ H' M' G' F ⟨p, fun _ => rfl⟩
/-- a variable handed back: it is moved -/
def sRetV (i : Nat) : Ev → So := fun r => match r[i]? with
  | some (some x) => .rt x (r.set i none)
  | _ => .no
theorem js_retV {e : Expr} (i : Nat) {pos : Pos} (h : PE X e (tVar i)) : JS X cl W io (.Return (some e) pos) (sRetV i) := fun _ => (ps_ret h).yimp fun D σ H ⟨r, M, G, e, q⟩ => by
  simp only [sRetV] at q
  cases hr : r[i]? with
  | none => rw [hr] at q; exact q.elim
  | some o =>
    cases o with
    | none => rw [hr] at q; exact q.elim
    | some xm =>
      obtain ⟨x, m⟩ := xm
      rw [hr] at q
      obtain ⟨v, hv, rp⟩ := e.at_ i x m hr
      refine ⟨v, hv, q v σ H M _ (G i) ⟨⟨e.drop i, ⟨fun _ _ h _ => h, fun _ h => h, fun _ h => .inl h, fun _ h _ => h, fun j b hb => .inl ⟨j, ?_⟩, fun b hb => .inl ⟨i, hb⟩⟩, rp, e.nd i, fun b hb => ⟨e.sub i b hb, fun j hj => ?_⟩⟩, fun _ => rfl⟩⟩
      · by_cases z : j = i
        · simp [z] at hb
        · simpa [z] using hb
      · by_cases z : j = i
        · simp [z] at hj
        · simp only [if_neg z] at hj
          exact e.dj j i z b hj hb
def sRetN : Ev → So := fun r => .rt (.n, .c) r
def sExpr (f : Ev → Ou Vl) : Ev → So := sWith f fun _ r => .nx r
def sIf (c : Ev → Ou Bool) (f g : Ev → So) : Ev → So := fun r => match c r with
  | .ok true r' => f r'
  | .ok false r' => g r'
  | .ex c fs r' => .ex c fs r'
  | .no => .no
theorem js_if {c : Expr} {a b : List Stmt} {fc : Ev → Ou Bool} {f g : Ev → So} {pos : Pos} (hc : JT X cl W c fc) (ha : JB X cl W io a f) (hb : JB X cl W io b g) : JS X cl W io (.If c a b pos) (sIf fc f g) := fun tk =>
  (ps_if (hc tk) (ha tk) (hb tk)).yimp fun D σ H ⟨r, M, G, e, q⟩ => by
    refine ⟨r, M, G, e, ?_⟩
    simp only [sIf] at q
    cases hf : fc r with
    | no => rw [hf] at q; exact q
    | ex c fs r' =>
      rw [hf] at q
      exact fun d H' M' G' p => q d σ H' M' G' ⟨p, fun _ => rfl⟩
    | ok k r' =>
      rw [hf] at q
      intro H' M' G' e' v'
      cases k with
      | true => rw [if_pos rfl]; exact ⟨r', M', G', e', q.back e.hot v' fun _ => rfl⟩
      | false => rw [if_neg Bool.false_ne_true]; exact ⟨r', M', G', e', q.back e.hot v' fun _ => rfl⟩
/-- a target: it stores a value with its owned lists -/
def TgOk (K : PySem.W.Frag) (io : Bool) (g : TG) (t : Vl → Ev → Option Ev) : Prop :=
  ∀ (r : Ev) (σ : L2.St) (G : Nat → List Addr) (M : Addr → Prop) (H : Hp) (v : V) (x : Dt) (m : Md) (F : List Addr) (r' : Ev) (Q : L2.St → Hp → Prop), ER K r σ G M H → Rp K M H m v x F → F.Nodup → (∀ b ∈ F, M b ∧ ∀ i, b ∉ G i) → t (x, m) r = some r' →
    (∀ σ' H' M' G', ER K r' σ' G' M' H' → (∀ b o, H b = some o → (∀ i, b ∉ G i) → b ∉ F → ∀ {nt : notT o}, H' b = some o) → (∀ b, H' b = none → H b = none) → (∀ b, M' b → M b ∨ H b = none) → (∀ b, M b → (∀ i, b ∉ G i) → b ∉ F → M' b) → (∀ i b, b ∈ G' i → (∃ j, b ∈ G j) ∨ b ∈ F ∨ H b = none) → (io = true → σ'[0]? = σ[0]?) → Q σ' H') → g v σ H Q
def sAsg (f : Ev → Ou Vl) (t : Vl → Ev → Option Ev) : Ev → So := sWith f fun x r => match t x r with
  | some r' => .nx r'
  | none => .no
theorem asg_go {K : PySem.W.Frag} {f : Ev → Ou Vl} {t : Vl → Ev → Option Ev} {g : TG} {D : Ends} {σ : L2.St} {H : Hp} (ht : TgOk K io g t) (q : tIS K cl W io (sAsg f t) D σ H) : tI K cl W f σ H fun v H1 => g v σ H1 D.nx :=
  tIS_with q fun r M G x m r' v H' M' G' F e p k => by
    cases hk : t (x, m) r' with
    | none => simp only [hk] at k; exact k.elim
    | some r2 =>
      simp only [hk] at k
      refine ht r' σ G' M' H' v x m F r2 _ p.er p.rp p.nd p.hot hk fun σ2 H2 M2 G2 e2 pr dm gr kp en pin => ?_
      have nf : ∀ b o, H b = some o → (∀ i, b ∉ G i) → b ∉ F := fun b o h hb hf => by
        rcases p.ev.res b hf with ⟨j, z⟩ | z
        · exact hb j z
        · rw [h] at z; cases z
      have ng : ∀ b o, H b = some o → (∀ i, b ∉ G i) → ∀ i, b ∉ G' i := fun b o h hb i hi => by
        rcases p.ev.env i b hi with ⟨j, z⟩ | z
        · exact hb j z
        · rw [h] at z; cases z
      refine k σ2 H2 M2 G2 ⟨e2, ⟨fun b o h hb {nt} => pr b o (p.ev.pres b o h hb) (ng b o h hb) (nf b o h hb) (nt := nt), fun b h => p.ev.dom b (dm b h), fun b z => ?_, fun b h hb => ?_, fun i b hb => ?_, fun _ z => nomatch z⟩, pin⟩
      · rcases gr b z with z | z
        · exact p.ev.grow b z
        · exact .inr (p.ev.dom b z)
      · obtain ⟨xs, h0, _⟩ := e.hot b h
        exact kp b (p.ev.keep b h hb) (ng b _ h0 hb) (nf b _ h0 hb)
      · rcases en i b hb with ⟨j, z⟩ | z | z
        · exact p.ev.env j b z
        · exact p.ev.res b z
        · exact .inr (p.ev.dom b z)
/-- a name -/
def tgV (i : Nat) : Vl → Ev → Option Ev := fun x r => if i < r.length then some (r.set i (some x)) else none
theorem tg_name {K : PySem.W.Frag} {i : Nat} (hio : io = true → i ≠ 0) : TgOk K io (gName i) (tgV i) := fun r σ G M H v x m F r' Q e rp nd hot ht k => by
  simp only [tgV] at ht
  split at ht
  · rename_i hi
    cases ht
    have hi' : i < σ.length := by rw [← e.len]; exact hi
    refine k _ H M _ (e.put rp nd hot hi') (fun _ _ h _ _ => h) (fun _ h => h) (fun _ h => .inl h) (fun _ h _ _ => h) (fun j b hb => ?_) fun z => ?_
    · by_cases q : j = i
      · simp only [if_pos q] at hb; exact .inr (.inl hb)
      · simp only [if_neg q] at hb; exact .inl ⟨j, hb⟩
    · rw [List.getElem?_set_ne (hio z)]
  · cases ht
theorem js_set {i : Nat} {x : Str} {e : Expr} {f : Ev → Ou Vl} {pos pos' : Pos} (hN : X.N.Nodup) (hi : X.N[i]? = some x) (hx : Loc X.env.scope x) (hio : io = true → i ≠ 0) (he : JE X cl W e f) (hs : swapsWith e (some (.Name x pos')) pos.line X.env = pure false := by rfl)
    (hf : X.fn x = true ∨ X.env.scope.names.lookup x = some .local := by first | exact .inl rfl | exact .inr rfl | assumption) : JS X cl W io (.Assign [.Name x pos'] e pos) (sAsg f (tgV i)) := fun tk =>
  (ps_set hN hi hx (he tk) hs hf).yimp fun _ _ _ q => asg_go (tg_name hio) q
theorem js_asg {tg e : Expr} {g : TG} {f : Ev → Ou Vl} {t : Vl → Ev → Option Ev} {pos : Pos} (hg : PG X tg g) (ht : TgOk X.K io g t) (he : JE X cl W e f) (hs : swapsWithSole [tg] e pos.line X.env = pure false := by rfl) (hw : swappedStores [tg] e X.env = pure none := by rfl)
    (h1 : (assignEach [tg] X.env).map (·.2) = [assign tg X.env] := by rfl) : JS X cl W io (.Assign [tg] e pos) (sAsg f t) := fun tk =>
  (ps_asg (he tk) hg hs hw h1).yimp fun _ _ _ q => asg_go ht q
end
end Y
namespace Y
open PySem L2
section
variable {K : PySem.W.Frag} {cl : Str → Addr} {W : WX} {io : Bool} {M M' M0 : Addr → Prop} {H H' H0 : Hp} {G G' G0 : Nat → List Addr} {r r' : Ev} {σ σ0 : L2.St} {D : Ends}
def tgs : List (Vl → Ev → Option Ev) → List Dt → Ev → Option Ev
  | [], [], r => some r
  | t :: ts, x :: xs, r => (t (x, .c) r).bind (tgs ts xs)
  | _, _, _ => none
def tgT (ts : List (Vl → Ev → Option Ev)) : Vl → Ev → Option Ev := fun x r => match x.1 with
  | .t xs => tgs ts xs r
  | .l xs => tgs ts xs r
  | .z xs => tgs ts xs r
  | _ => none
/-- a tuple or a list of that length -/
def gTupA (K : PySem.W.Frag) (n : Nat) (t : TGs) : TG := fun v σ H Q => gTup K n t v σ H Q ∨ gUnl K n t v σ H Q
theorem pg_tupA {X : Cx} {pos : Pos} {es : List Expr} {k : Nat} {t : TGs} {n : Nat} (hc : X.calm = true) (h : PGs X es t) (hn : (assignEach es X.env).length = n := by rfl) (hst : (assignEach es X.env).findIdx? (·.1) = none := by rfl) : PG X (.Tuple es k pos) (gTupA X.K n t) :=
  ⟨fun pins s σ H v u Q I r hw => hw.elim (fun hw => (pg_tup hc h hn hst).run pins s σ H v u Q I r hw) fun hw => (pg_unl hc h hn hst).run pins s σ H v u Q I r hw⟩
inductive TgsOk (K : PySem.W.Frag) (io : Bool) : TGs → List (Vl → Ev → Option Ev) → Prop
  | nil : TgsOk K io gNil []
  | cons {g : TG} {gs : TGs} {t : Vl → Ev → Option Ev} {ts : List (Vl → Ev → Option Ev)} : TgOk K io g t → TgsOk K io gs ts → TgsOk K io (gCons g gs) (t :: ts)
/-- the plain part of what a target leaves -/
structure Tx (K : PySem.W.Frag) (io : Bool) (r' : Ev) (σ σ' : L2.St) (H : Hp) (M : Addr → Prop) (G : Nat → List Addr) (H' : Hp) (M' : Addr → Prop) (G' : Nat → List Addr) : Prop where
  er : ER K r' σ' G' M' H'
  pres' : ∀ b o, H b = some o → (∀ i, b ∉ G i) → ∀ {nt : notT o}, H' b = some o
  dom : ∀ b, H' b = none → H b = none
  grow : ∀ b, M' b → M b ∨ H b = none
  keep : ∀ b, M b → (∀ i, b ∉ G i) → M' b
  env : ∀ i b, b ∈ G' i → (∃ j, b ∈ G j) ∨ H b = none
  pin : io = true → σ'[0]? = σ[0]?
theorem Tx.pres {σ' : L2.St} (t : Tx K io r' σ σ' H M G H' M' G') (b : Addr) (o : HO) (h : H b = some o) (hb : ∀ i, b ∉ G i) (nt : notT o := by first | assumption | exact hot_nt (by assumption) | (intro _ z; cases z)) : H' b = some o := t.pres' b o h hb (nt := nt)
theorem Tx.evo {σ' : L2.St} (t : Tx K io r' σ σ' H M G H' M' G') : Evo H M G H' M' G' [] := ⟨t.pres', t.dom, t.grow, t.keep, t.env, fun _ z => nomatch z⟩
theorem TgOk.cold {g : TG} {t : Vl → Ev → Option Ev} (h : TgOk K io g t) {v : V} {x : Dt} {Q : L2.St → Hp → Prop} (e : ER K r σ G M H) (c : Co K M H v x) (ht : t (x, .c) r = some r')
    (k : ∀ σ' H' M' G', Tx K io r' σ σ' H M G H' M' G' → Q σ' H') : g v σ H Q :=
  h r σ G M H v x .c [] r' Q e ⟨c, rfl⟩ List.nodup_nil (fun _ z => nomatch z) ht fun σ' H' M' G' e' p d gr kp en pin => k σ' H' M' G' ⟨e', fun b o h1 h2 {nt} => p b o h1 h2 (by simp) (nt := nt), d, gr, fun b h1 h2 => kp b h1 h2 (by simp), fun i b hb => (en i b hb).imp id fun z => z.elim (fun z => nomatch z) id, pin⟩
theorem TgsOk.run {gs : TGs} {ts : List (Vl → Ev → Option Ev)} (h : TgsOk K io gs ts) : ∀ {r r' : Ev} {σ : L2.St} {G : Nat → List Addr} {M : Addr → Prop} {H : Hp} {vs : List V} {xs : List Dt} {Q : L2.St → Hp → Prop}, ER K r σ G M H → CoL K M H vs xs → tgs ts xs r = some r' →
    (∀ σ' H' M' G', Tx K io r' σ σ' H M G H' M' G' → Q σ' H') → gs vs σ H Q := by
  induction h with
  | nil =>
    intro r r' σ G M H vs xs Q e c ht k
    cases c with
    | nil =>
      simp only [tgs] at ht
      cases ht
      exact ⟨rfl, k σ H M G ⟨e, fun _ _ h _ => h, fun _ h => h, fun _ h => .inl h, fun _ h _ => h, fun i b h => .inl ⟨i, h⟩, fun _ => rfl⟩⟩
    | cons _ _ => simp [tgs] at ht
  | @cons g gs t ts h1 _ ih =>
    intro r r' σ G M H vs xs Q e c ht k
    cases c with
    | nil => simp [tgs] at ht
    | @cons v vs x xs c cs =>
      simp only [tgs, Option.bind_eq_some_iff] at ht
      obtain ⟨r1, ht1, ht2⟩ := ht
      refine ⟨v, vs, rfl, h1.cold e c ht1 fun σ1 H1 M1 G1 t1 => ?_⟩
      refine ih t1.er (cs.fm (e.fm t1.evo)) ht2 fun σ2 H2 M2 G2 t2 => k σ2 H2 M2 G2 ?_
      have v := t1.evo.trans e.hot t2.evo
      exact ⟨t2.er, v.pres', v.dom, v.grow, v.keep, v.env, fun i => (t2.pin i).trans (t1.pin i)⟩
theorem tg_tup {gs : TGs} {ts : List (Vl → Ev → Option Ev)} {n : Nat} (h : TgsOk K io gs ts) (hn : ts.length = n) : TgOk K io (gTupA K n gs) (tgT ts) := fun r σ G M H v x m F r' Q e rp nd hot ht k => by
  have e2 : ER K r σ G (fun b => M b ∧ b ∉ F) H := e.lessM (fun b z => z.1) fun i b hb => ⟨e.sub i b hb, fun z => (hot b z).2 i hb⟩
  have c : Co K (fun b => M b ∧ b ∉ F) H v x := rp.cold e.hot (fun b hb z => z.2 hb) fun b z => z.1
  have hl : ∀ (ts : List (Vl → Ev → Option Ev)) (xs : List Dt) (r : Ev) {r'}, tgs ts xs r = some r' → xs.length = ts.length := by
    intro ts
    induction ts with
    | nil =>
      intro xs r r' h
      cases xs with
      | nil => rfl
      | cons => simp [tgs] at h
    | cons t ts ih =>
      intro xs r r' h
      cases xs with
      | nil => simp [tgs] at h
      | cons x xs =>
        simp only [tgs, Option.bind_eq_some_iff] at h
        obtain ⟨r1, _, h2⟩ := h
        simp [ih xs r1 h2]
  have fin : ∀ {vs : List V} {xs : List Dt}, CoL K (fun b => M b ∧ b ∉ F) H vs xs → tgs ts xs r = some r' → vs.length = n ∧ gs vs σ H Q := fun {vs xs} cs ht =>
    ⟨by rw [cs.len, hl ts xs r ht, hn], h.run e2 cs ht fun σ' H' M' G' t => k σ' H' M' G' t.er (fun b o h1 h2 _ => t.pres b o h1 h2) t.dom (fun b z => (t.grow b z).imp And.left id) (fun b h1 h2 h3 => t.keep b ⟨h1, h3⟩ h2) (fun i b hb => (t.env i b hb).imp id .inr) t.pin⟩
  cases c with
  | @t a vs xs hs cs => exact .inl ⟨a, vs, rfl, hs, fin cs ht⟩
  | @l a vs xs hs _ cs => exact .inr ⟨a, vs, rfl, .inl (.inl hs), fin cs ht⟩
  | @z a vs xs hs cs => exact .inr ⟨a, vs, rfl, hs.sq, fin cs ht⟩
  | _ => simp [tgT] at ht
/-- turns over items -/
structure SrcOk (K : PySem.W.Frag) (J : It) (M : Addr → Prop) (H : Hp) (xs : List Dt) : Prop where
  go : ∀ i M1 H1, i < xs.length → Fm M H M1 H1 → J.go i H1
  stop : ∀ M1 H1, Fm M H M1 H1 → J.stop xs.length H1
  yld : ∀ i x v M1 H1 H2, xs[i]? = some x → Fm M H M1 H1 → Hotty M1 H1 → J.yld i H1 v H2 → (∀ b o, H1 b = some o → H2 b = some o) ∧ Co K M1 H2 v x
def tII (K : PySem.W.Frag) (cl : Str → Addr) (W : WX) (s : Ev → Ou (List Dt)) : TI := fun σ H R => ∃ r M G, ER K r σ G M H ∧
  match s r with
  | .ok xs r' => ∀ J H' M' G', ER K r' σ G' M' H' → Evo H M G H' M' G' [] → SrcOk K J M' H' xs → R J H'
  | .ex c fs r' => ∀ d H' M' G', XX K r' σ H M G fs d H' M' G' → W (.ref (cl c)) d σ H'
  | .no => False
theorem Fm.trans {M2 : Addr → Prop} {H2 : Hp} (dom : ∀ b, H' b = none → H b = none) (a : Fm M H M' H') (c : Fm M' H' M2 H2) : Fm M H M2 H2 :=
  ⟨fun b o e hn => c.keep b o (a.keep b o e hn) fun z => (a.grow b z).elim hn fun q => (by rw [e] at q; cases q), fun b z => (c.grow b z).elim (a.grow b) fun q => .inr (dom b q), a.hot⟩
/-- the heap grows by what is new -/
theorem ER.grown (e : ER K r σ G M H) (h : ∀ b o, H b = some o → H' b = some o) : ER K r σ G M H' ∧ Evo H M G H' M G [] := by
  have dm : ∀ b, H' b = none → H b = none := fun b q => by
    cases z : H b with
    | none => rfl
    | some o =>
      rw [h b o z] at q
      cases q
  exact ⟨e.evoF (fun b o q _ => h b o q) (fun b z => .inl z) (fun i b hb => e.sub i b hb) fun b z => let ⟨xs, q, ho⟩ := e.hot b z; ⟨xs, h b _ q, ho⟩, ⟨fun b o q _ => h b o q, dm, fun b z => .inl z, fun b z _ => z, fun i b hb => .inl ⟨i, hb⟩, fun _ z => nomatch z⟩⟩
/-- what stands stays, but tables of code objects may grow -/
structure SW (K : PySem.W.Frag) (H H' : Hp) : Prop where
  st : ∀ b o, H b = some o → notT o → H' b = some o
  tb : TabsK K H'
  dm : ∀ b, H' b = none → H b = none
def forL (t : Vl → Ev → Option Ev) (body : Ev → So) : List Dt → Ev → So
  | [], r => .nx r
  | x :: xs, r => match t (x, .c) r with
    | none => .no
    | some r1 => match body r1 with
      | .nx r2 => forL t body xs r2
      | .ct r2 => forL t body xs r2
      | .bk r2 => .nx r2
      | .rt x r2 => .rt x r2
      | .ex c fs r2 => .ex c fs r2
      | .no => .no
def sFor (s : Ev → Ou (List Dt)) (t : Vl → Ev → Option Ev) (body : Ev → So) : Ev → So := fun r => match s r with
  | .ok xs r1 => forL t body xs r1
  | .ex c fs r1 => .ex c fs r1
  | .no => .no
theorem tIS_for {s : Ev → Ou (List Dt)} {t : Vl → Ev → Option Ev} {body : Ev → So} {g : TG} (ht : TgOk K io g t) (h : tIS K cl W io (sFor s t body) D σ H) : tFor (tII K cl W s) g (tIS K cl W io body) D σ H := by
  obtain ⟨r, M, G, e, h⟩ := h
  refine ⟨r, M, G, e, ?_⟩
  simp only [sFor] at h
  cases hs : s r with
  | no => rw [hs] at h; exact h
  | ex c fs r' => rw [hs] at h; exact fun d H' M' G' p => h d σ H' M' G' ⟨p, fun _ => rfl⟩
  | ok xs r1 =>
    rw [hs] at h
    simp only at h
    intro J H1 M1 G1 e1 v1 so
    refine ⟨fun i m σ' H' => m = xs.length - i ∧ i ≤ xs.length ∧ ∃ r' M' G', ER K r' σ' G' M' H' ∧ Evo H1 M1 G1 H' M' G' [] ∧ (io = true → σ'[0]? = σ[0]?) ∧ sEnd K cl W io D σ H M G (forL t body (xs.drop i) r'),
      ⟨xs.length, by simp, Nat.zero_le _, r1, M1, G1, e1, .refl, fun _ => rfl, by simpa using h⟩, ?_⟩
    rintro i m σ' H' ⟨rfl, hi, r', M', G', e', v', pin', h'⟩
    have f' := e1.fm v'
    by_cases hlt : i < xs.length
    · refine .inr ⟨so.go i M' H' hlt f', _, fun σ2 H2 q => ⟨xs.length - (i + 1), by omega, rfl, hlt, q⟩, fun v H2 y => ?_⟩
      have hx : xs[i]? = some xs[i] := by simp [hlt]
      obtain ⟨hg, c⟩ := so.yld i xs[i] v M' H' H2 hx f' e'.hot y
      obtain ⟨e2, v2⟩ := e'.grown hg
      rw [List.drop_eq_getElem_cons hlt] at h'
      simp only [forL] at h'
      cases hk : t (xs[i], .c) r' with
      | none => rw [hk] at h'; exact h'.elim
      | some r3 =>
        rw [hk] at h'
        simp only at h'
        refine ht.cold e2 c hk fun σ3 H3 M3 G3 t3 => ⟨r3, M3, G3, t3.er, ?_⟩
        have v3 : Evo H1 M1 G1 H3 M3 G3 [] := (v'.trans e1.hot v2).trans e1.hot t3.evo
        have vv : Evo H M G H3 M3 G3 [] := v1.trans e.hot v3
        have pin3 : io = true → σ3[0]? = σ[0]? := fun z => (t3.pin z).trans (pin' z)
        cases hb : body r3 with
        | nx r4 =>
          rw [hb] at h'
          exact fun σ4 H4 M4 G4 p => ⟨r4, M4, G4, p.er, v3.trans e1.hot p.ev, fun z => (p.pin z).trans (pin3 z), h'⟩
        | ct r4 =>
          rw [hb] at h'
          exact fun σ4 H4 M4 G4 p => ⟨r4, M4, G4, p.er, v3.trans e1.hot p.ev, fun z => (p.pin z).trans (pin3 z), h'⟩
        | bk r4 =>
          rw [hb] at h'
          exact fun σ4 H4 M4 G4 p => h' σ4 H4 M4 G4 ⟨p.er, vv.trans e.hot p.ev, fun z => (p.pin z).trans (pin3 z)⟩
        | rt xm r4 =>
          rw [hb] at h'
          exact sEnd.back (D := D) e.hot vv pin3 (o := .rt xm r4) h'
        | ex c fs r4 =>
          rw [hb] at h'
          exact sEnd.back (D := D) e.hot vv pin3 (o := .ex c fs r4) h'
        | no => rw [hb] at h'; exact h'
    · have he : i = xs.length := by omega
      subst he
      rw [List.drop_length] at h'
      exact .inl ⟨so.stop M' H' f', h' σ' H' M' G' ⟨e', v1.trans e.hot v', pin'⟩⟩
end
section
variable {X : Cx} {cl : Str → Addr} {W : WX} {io : Bool}
theorem tgs_nil {K : PySem.W.Frag} : TgsOk K io gNil [] := .nil
theorem tgs_c {K : PySem.W.Frag} {g : TG} {gs : TGs} {t : Vl → Ev → Option Ev} {ts : List (Vl → Ev → Option Ev)} (h : TgOk K io g t) (q : TgsOk K io gs ts) : TgsOk K io (gCons g gs) (t :: ts) := .cons h q
def JI (X : Cx) (cl : Str → Addr) (W : WX) (tg iter : Expr) (s : Ev → Ou (List Dt)) : Prop := Takes X W → PI X tg iter (tII X.K cl W s)
theorem _root_.L2.PI.yimp {X : Cx} {tg e : Expr} {t t' : TI} (h : PI X tg e t) (k : ∀ σ H R, t' σ H R → t σ H R) : PI X tg e t' := ⟨fun pins s σ H R I q => h.run pins s σ H R I (k σ H R q)⟩
theorem js_for {tg iter : Expr} {body : List Stmt} {s : Ev → Ou (List Dt)} {g : TG} {t : Vl → Ev → Option Ev} {f : Ev → So} {pos : Pos} (hp : PassesOwn (model X.prog X.w) X.A X.env X.xe) (hc : X.calm = true) (hi : JI X cl W tg iter s) (hg : PG X tg g) (ht : TgOk X.K io g t) (hb : JB X cl W io body f)
    (hs : ∀ x, foldedSetIterable iter X.env x = pure x := by intro _; rfl) : JS X cl W io (.For tg iter body [] pos) (sFor s t f) := fun tk => (ps_for hp hc (hi tk) hg (hb tk) hs).yimp fun _ _ _ q => tIS_for ht q
end
end Y
namespace Y
open PySem L2
section
variable {K : PySem.W.Frag} {cl : Str → Addr} {W : WX} {io : Bool} {M M' M0 : Addr → Prop} {H H' H0 : Hp} {G G' G0 : Nat → List Addr} {r r' : Ev} {σ σ0 : L2.St} {D : Ends}
def wipeE (r : Ev) : List Nat → Ev
  | [] => r
  | v :: vs => (wipeE r vs).set v none
theorem wipeE_at : ∀ {vs : List Nat} {i : Nat} {x : Vl}, (wipeE r vs)[i]? = some (some x) → r[i]? = some (some x) ∧ i ∉ vs
  | [], _, _, h => ⟨h, by simp⟩
  | v :: vs, i, x, h => by
    simp only [wipeE] at h
    by_cases q : v = i
    · subst q
      by_cases hl : v < (wipeE r vs).length
      · rw [List.getElem?_set_self hl] at h; cases h
      · rw [List.getElem?_eq_none (by simpa using hl)] at h; cases h
    · rw [List.getElem?_set_ne q] at h
      obtain ⟨h1, h2⟩ := wipeE_at h
      exact ⟨h1, by simp only [List.mem_cons, not_or]; exact ⟨fun z => q z.symm, h2⟩⟩
/-- the same, where slots that hold nothing are told otherwise -/
theorem ER.slots {σ' : L2.St} (e : ER K r σ G M H) (hl : σ'.length = σ.length) (h : ∀ (i : Nat) (x : Vl) (v : V), r[i]? = some (some x) → σ[i]? = some (some v) → σ'[i]? = some (some v)) : ER K r σ' G M H :=
  ⟨e.len.trans hl.symm, fun i x m q => let ⟨v, h1, h2⟩ := e.at_ i x m q; ⟨v, h i _ v q h1, h2⟩, e.emp, e.nd, e.dj, e.sub, e.hot, e.tab⟩
theorem ER.drops (e : ER K r σ G M H) : ∀ (vs : List Nat), ER K (wipeE r vs) σ (fun i => if i ∈ vs then [] else G i) M H
  | [] => by simpa [wipeE] using e
  | v :: vs => by
    have e2 := (ER.drops e vs).drop v
    have g : (fun j => if j = v then ([] : List Addr) else if j ∈ vs then [] else G j) = fun i => if i ∈ v :: vs then [] else G i := by
      funext j
      by_cases q : j = v
      · simp [q]
      · by_cases q2 : j ∈ vs <;> simp [q, q2]
    rw [g] at e2
    exact e2
theorem ER.wipe (e : ER K r σ G M H) (vs : List Nat) : ER K (wipeE r vs) (wipe σ vs) (fun i => if i ∈ vs then [] else G i) M H :=
  (e.drops vs).slots (wipe_length σ vs) fun i x v h1 h2 => by
    obtain ⟨_, q⟩ := wipeE_at h1
    rw [wipe_out q]; exact h2
theorem evo_drops (vs : List Nat) : Evo H M G H M (fun i => if i ∈ vs then [] else G i) [] :=
  ⟨fun _ _ h _ => h, fun _ h => h, fun _ h => .inl h, fun _ h _ => h, fun i b hb => .inl ⟨i, by
    by_cases q : i ∈ vs
    · simp [q] at hb
    · simpa [q] using hb⟩, fun _ z => nomatch z⟩
/-- behind the block: what its own names meant outside, where nobody owned it -/
def rsE (r0 : Ev) : List Nat → Ev → Ev
  | [], r => r
  | v :: vs, r => match r0[v]? with
    | some (some (x, m)) => if x.flat || m == .c then (rsE r0 vs r).set v (some (x, .c)) else rsE r0 vs r
    | _ => rsE r0 vs r
theorem ER.restore {M2 : Addr → Prop} {H2 : Hp} {G2 : Nat → List Addr} (e0 : ER K r' σ G' M' H') (f : Fm M' H' M2 H2) : ∀ (vs : List Nat) {r : Ev}, (∀ v ∈ vs, ∀ x, r[v]? ≠ some (some x)) → ER K r σ G2 M2 H2 → ER K (rsE r' vs r) σ G2 M2 H2
  | [], r, _, e => e
  | v :: vs, r, hn, e => by
    have ih := ER.restore (G2 := G2) e0 f vs (fun u hu => hn u (List.mem_cons_of_mem _ hu)) e
    simp only [rsE]
    cases h0 : r'[v]? with
    | none => exact ih
    | some o =>
      cases o with
      | none => exact ih
      | some xm =>
        obtain ⟨x, m⟩ := xm
        simp only
        by_cases hx : (x.flat || m == .c) = true
        · rw [if_pos hx]
          obtain ⟨w, hw, rp⟩ := e0.at_ v x m h0
          have c : Co K M' H' w x := by
            rw [Bool.or_eq_true] at hx
            rcases hx with hx | hx
            · have := rp.flatAny (M' := M') hx
              cases m with
              | c => exact this.1
              | t => obtain ⟨a, us, xs, rfl, rfl, _⟩ := this; simp [Dt.flat] at hx
              | a => exact Ho.cold this (by rw [Ho.flatE this hx]; exact fun _ z => nomatch z)
            · have hx : m = .c := by simpa using hx
              subst hx
              exact rp.1
          have gv : G2 v = [] := e.emp v fun x m q => hn v List.mem_cons_self (x, m) q
          have e3 := ih.put (i := v) (v := w) (x := x) (m := .c) (F := []) ⟨c.fm f, rfl⟩ List.nodup_nil (fun _ z => nomatch z) (List.getElem?_eq_some_iff.mp hw).1
          rw [set_id hw] at e3
          have g : (fun j => if j = v then ([] : List Addr) else G2 j) = G2 := by
            funext j
            by_cases q : j = v
            · simp [q, gv]
            · simp [q]
          rw [g] at e3
          exact e3
        · rw [if_neg hx]; exact ih
/-- the tests: all of them | one -/
def lcL (vs : List Nat) (t : Vl → Ev → Option Ev) (c : Ev → Ou Bool) (f : Ev → Ou Vl) (own : Bool) : List Dt → Ev → List Dt → Ou (List Dt)
  | [], r, acc => .ok acc r
  | x :: xs, r, acc => match t (x, .c) r with
    | none => .no
    | some r1 => match c r1 with
      | .ok false r2 => lcL vs t c f own xs (wipeE r2 vs) acc
      | .ok true r2 => match f r2 with
        | .ok (y, m) r3 => if own && !zfl (y, m) then .no else lcL vs t c f own xs (wipeE r3 vs) (acc ++ [y])
        | _ => .no
      | _ => .no
def mLc (own : Bool) (vs : List Nat) (s : Ev → Ou (List Dt)) (t : Vl → Ev → Option Ev) (c : Ev → Ou Bool) (f : Ev → Ou Vl) : Ev → Ou Vl := fun r => match s r with
  | .ok xs r1 => if xs.length ≤ LIM then
      match lcL vs t c f own xs (wipeE r1 vs) [] with
      | .ok ys r2 => .ok (.l ys, if own then .a else .t) (rsE r1 vs r2)
      | _ => .no
    else .no
  | .ex c fs r1 => .ex c fs r1
  | .no => .no
theorem HoL.snoc : ∀ {vs : List V} {xs : List Dt} {F F' : List Addr} {v : V} {x : Dt}, HoL K H vs xs F → Ho K H v x F' → HoL K H (vs ++ [v]) (xs ++ [x]) (F ++ F')
  | _, _, _, _, _, _, .nil, h => by
    have := HoL.cons h .nil
    rw [List.append_nil] at this
    exact this
  | _, _, _, _, _, _, .cons a b, h => by
    rw [List.append_assoc]
    exact .cons a (HoL.snoc b h)
theorem CoL.snoc : ∀ {vs : List V} {xs : List Dt} {v : V} {x : Dt}, CoL K M H vs xs → Co K M H v x → CoL K M H (vs ++ [v]) (xs ++ [x])
  | _, _, _, _, .nil, h => .cons h .nil
  | _, _, _, _, .cons a b, h => .cons a (CoL.snoc b h)
/-- the list that grows: of cold items | of owned ones -/
def Acc (K : PySem.W.Frag) (M : Addr → Prop) (H : Hp) (own : Bool) (p : Addr) (xs : List Dt) (F : List Addr) : Prop :=
  Rp K M H (if own then .a else .t) (.ref p) (.l xs) F ∧ p ∈ F
theorem Acc.at_ {own : Bool} {p : Addr} {xs : List Dt} {F : List Addr} (h : Acc K M H own p xs F) : ∃ vs F', H p = some (.lst vs) ∧ F = p :: F' ∧ vs.length = xs.length ∧ (own = true → HoL K H vs xs F') ∧ (own = false → CoL K M H vs xs ∧ F' = []) := by
  obtain ⟨h, hp⟩ := h
  cases own with
  | true =>
    have h : Ho K H (.ref p) (.l xs) F := h
    cases h with
    | @l a vs _ F e q =>
      have hl : ∀ {vs : List V} {xs : List Dt} {F : List Addr}, HoL K H vs xs F → vs.length = xs.length := fun h => by
        induction h using HoL.rec (motive_1 := fun _ _ _ _ => True) with
        | nil => rfl
        | cons _ _ _ ih => simp [ih]
        | _ => trivial
      exact ⟨vs, F, e, rfl, hl q, fun _ => q, fun z => nomatch z⟩
  | false =>
    obtain ⟨a, vs, ys, h1, h2, rfl, e, c⟩ := h
    cases h1
    cases h2
    exact ⟨vs, [], e, rfl, c.len, fun z => (nomatch z), fun _ => ⟨c, rfl⟩⟩
theorem wipe_at (σ : L2.St) : ∀ (vs : List Nat) (j : Nat), (wipe σ vs)[j]? = if j ∈ vs then (if j < σ.length then some none else none) else σ[j]?
  | [], j => by simp [wipe]
  | v :: vs, j => by
    show ((wipe σ vs).set v none)[j]? = _
    by_cases q : v = j
    · subst q
      by_cases hl : v < σ.length
      · rw [List.getElem?_set_self (by rw [wipe_length]; exact hl)]; simp [hl]
      · rw [List.getElem?_eq_none (by simp [wipe_length]; omega)]; simp [hl]
    · rw [List.getElem?_set_ne q, wipe_at σ vs j]
      have : j ≠ v := Ne.symm q
      simp [this]
theorem wipe_set {σ : L2.St} {i : Nat} {x : Option V} {vs : List Nat} (hi : i ∈ vs) : wipe (σ.set i x) vs = wipe σ vs := by
  apply List.ext_getElem?
  intro j
  rw [wipe_at, wipe_at]
  by_cases q : j ∈ vs
  · simp [q]
  · simp only [if_neg q]
    rw [List.getElem?_set_ne (fun z => q (by rw [← z]; exact hi))]
theorem wipe_wipe {σ : L2.St} {vs : List Nat} : wipe (wipe σ vs) vs = wipe σ vs := by
  apply List.ext_getElem?
  intro j
  rw [wipe_at, wipe_at]
  by_cases q : j ∈ vs
  · simp [q, wipe_length]
  · simp only [if_neg q]
/-- a target that stores to a block's own names alone -/
def TgW (g : TG) (vs : List Nat) : Prop := ∀ v σ H (Q Q' : L2.St → Hp → Prop), (∀ σ' H', wipe σ' vs = wipe σ vs → Q σ' H' → Q' σ' H') → g v σ H Q → g v σ H Q'
def TgsW (g : TGs) (vs : List Nat) : Prop := ∀ xs σ H (Q Q' : L2.St → Hp → Prop), (∀ σ' H', wipe σ' vs = wipe σ vs → Q σ' H' → Q' σ' H') → g xs σ H Q → g xs σ H Q'
theorem tw_name {i : Nat} {vs : List Nat} (hi : i ∈ vs) : TgW (gName i) vs := fun v σ H Q Q' h q => h _ _ (wipe_set hi) q
theorem tws_nil {vs : List Nat} : TgsW gNil vs := fun xs σ H Q Q' h q => ⟨q.1, h _ _ rfl q.2⟩
theorem tws_c {vs : List Nat} {g : TG} {gs : TGs} (h : TgW g vs) (q : TgsW gs vs) : TgsW (gCons g gs) vs := fun xs σ H Q Q' k ⟨v, r, e, z⟩ =>
  ⟨v, r, e, h v σ H _ _ (fun σ1 H1 e1 q1 => q r σ1 H1 _ _ (fun σ2 H2 e2 q2 => k σ2 H2 (e2.trans e1) q2) q1) z⟩
theorem tw_tup {vs : List Nat} {gs : TGs} {n : Nat} (q : TgsW gs vs) : TgW (gTupA K n gs) vs := fun v σ H Q Q' k z => z.imp (fun ⟨a, xs, h1, h2, h3, h4⟩ => ⟨a, xs, h1, h2, h3, q xs σ H Q Q' k h4⟩) fun ⟨a, xs, h1, h2, h3, h4⟩ => ⟨a, xs, h1, h2, h3, q xs σ H Q Q' k h4⟩
abbrev W0 : WX := fun _ _ _ _ => False
theorem PX.keeps {v : V} {x : Dt} {m : Md} {F : List Addr} {M1 : Addr → Prop} {H1 : Hp} {G1 : Nat → List Addr} {r2 : Ev} {σ2 : L2.St} (ht : Hotty M H) (p : PX K r σ H M G v x m H' M' G' F) {F2 : List Addr} (e2 : ER K r2 σ2 G1 M1 H1) (ev : Evo H' M' G' H1 M1 G1 F2) :
    PX K r2 σ2 H M G v x m H1 M1 G1 F ∧ ∀ b ∈ F, b ∉ F2 := by
  obtain ⟨a, b, c⟩ := p.rp.evo p.hot p.er ev
  have v0 := p.ev
  have vt : Evo H M G H1 M1 G1 F := by
    have v1 : Evo H M G H' M' G' [] := ⟨v0.pres', v0.dom, v0.grow, v0.keep, v0.env, fun _ z => nomatch z⟩
    have v2 := v1.trans ht ev
    exact ⟨v2.pres', v2.dom, v2.grow, v2.keep, v2.env, v0.res⟩
  exact ⟨⟨e2, vt, a, p.nd, b⟩, c⟩
theorem mLc_go {T : TI} {own : Bool} {vs : List Nat} {s : Ev → Ou (List Dt)} {t : Vl → Ev → Option Ev} {c : Ev → Ou Bool} {f : Ev → Ou Vl} {g : TG} {Q : VK} (hg : TgOk K false g t) (hw : TgW g vs) (e : ER K r σ G M H)
    (hT : ∀ R, (match s r with
      | .ok xs r' => ∀ J H' M' G', ER K r' σ G' M' H' → Evo H M G H' M' G' [] → SrcOk K J M' H' xs → R J H'
      | .ex c fs r' => ∀ d H' M' G', XX K r' σ H M G fs d H' M' G' → W (.ref (cl c)) d σ H'
      | .no => False) → T σ H R)
    (h : match mLc own vs s t c f r with
      | .ok (x, m) r' => ∀ v H' M' G' F, PX K r' σ H M G v x m H' M' G' F → Q v H'
      | .ex c fs r' => ∀ d H' M' G', XX K r' σ H M G fs d H' M' G' → W (.ref (cl c)) d σ H'
      | .no => False) :
    tLc T g (tIB K cl W0 c) (tI K cl W0 f) vs σ H Q := by
  refine hT _ ?_
  simp only [mLc] at h
  cases hs : s r with
  | no => rw [hs] at h; exact h
  | ex c fs r' => rw [hs] at h; exact h
  | ok xs r1 =>
    rw [hs] at h
    simp only at h
    by_cases hz : xs.length ≤ LIM
    case neg => rw [if_neg hz] at h; exact fun _ _ _ _ _ _ _ => h.elim
    rw [if_pos hz] at h
    cases hL : lcL vs t c f own xs (wipeE r1 vs) [] with
    | no => rw [hL] at h; exact fun _ _ _ _ _ _ _ => h.elim
    | ex c fs r' => rw [hL] at h; exact fun _ _ _ _ _ _ _ => h.elim
    | ok ys r2 =>
    rw [hL] at h
    simp only at h
    intro J H1 M1 G1 e1 v1 so D hD
    have ew := e1.wipe vs
    have vw : Evo H1 M1 G1 H1 M1 (fun i => if i ∈ vs then [] else G1 i) [] := evo_drops vs
    refine ⟨fun i m H' => m = xs.length - i ∧ i ≤ xs.length ∧ ∃ r' M' G' acc F, PX K r' (wipe σ vs) H1 M1 G1 (.ref D) (.l acc) (if own then .a else .t) H' M' G' F ∧ acc.length ≤ i ∧ (∀ j ∈ vs, ∀ x, r'[j]? ≠ some (some x)) ∧ lcL vs t c f own (xs.drop i) r' acc = .ok ys r2, ⟨xs.length, by simp, Nat.zero_le _, ?_⟩, ?_⟩
    · -- the start
      have p0 : Mk K H1 M1 (.ref D) (.l []) (if own then .a else .t) (upd H1 D (.lst [])) [D] := by
        have q := mk_lst (K := K) ew.hot hD .nil
        refine ⟨q.same, q.new, q.nd, ?_⟩
        cases own with
        | true => exact Ho.l upd_same .nil
        | false => exact q.rp
      obtain ⟨e', v', nM⟩ := p0.env ew
      exact ⟨_, _, _, [], [D], ⟨e', vw.trans e1.hot v', p0.rp, p0.nd, fun b hb => ⟨.inr hb, fun i hi => nM b hb (ew.sub i b hi)⟩⟩, Nat.le_refl _, fun j hj x q => (wipeE_at q).2 hj, by simpa using hL⟩
    · rintro i m H' ⟨rfl, hi, r', M', G', acc, F, p, hacc, hn, hl⟩
      have f' := e1.fm p.ev
      by_cases hlt : i < xs.length
      case neg =>
        have he : i = xs.length := by omega
        subst he
        rw [List.drop_length] at hl
        simp only [lcL, Ou.ok.injEq] at hl
        obtain ⟨rfl, rfl⟩ := hl
        refine .inl ⟨so.stop M' H' f', h _ H' M' G' F ⟨?_, ?_, p.rp, p.nd, p.hot⟩⟩
        · refine ER.restore e1 f' vs hn (p.er.slots (wipe_length σ vs).symm fun j x v h1 h2 => ?_)
          rw [wipe_at] at h2
          by_cases q : j ∈ vs
          · exact absurd h1 (hn j q x)
          · simpa [q] using h2
        · have := v1.trans e.hot p.ev
          exact this
      refine .inr ⟨so.go i M' H' hlt f', _, fun H2 q => ⟨xs.length - (i + 1), by omega, rfl, hlt, q⟩, fun v H2 y => ?_⟩
      have hx : xs[i]? = some xs[i] := by simp [hlt]
      obtain ⟨hgr, co⟩ := so.yld i xs[i] v M' H' H2 hx f' p.er.hot y
      obtain ⟨e2, v2⟩ := p.er.grown hgr
      obtain ⟨p2, _⟩ := p.keeps e1.hot e2 v2
      rw [List.drop_eq_getElem_cons hlt] at hl
      simp only [lcL] at hl
      cases hk : t (xs[i], .c) r' with
      | none => rw [hk] at hl; cases hl
      | some r3 =>
      rw [hk] at hl
      simp only at hl
      refine hw v (wipe σ vs) H2 (fun σ3 H3 => ∃ M3 G3, Tx K false r3 (wipe σ vs) σ3 H2 M' G' H3 M3 G3) _ (fun σ3 H3 we ⟨M3, G3, t3⟩ => ?_) (hg.cold e2 co hk fun σ3 H3 M3 G3 t3 => ⟨M3, G3, t3⟩)
      rw [wipe_wipe] at we
      refine ⟨we, r3, M3, G3, t3.er, ?_⟩
      obtain ⟨p3, _⟩ := p2.keeps e1.hot t3.er t3.evo
      cases hc : c r3 with
      | no => rw [hc] at hl; cases hl
      | ex c fs r4 => rw [hc] at hl; cases hl
      | ok k r4 =>
      rw [hc] at hl
      intro H4 M4 G4 e4 v4
      obtain ⟨p4, _⟩ := p3.keeps e1.hot e4 v4
      cases k with
      | false =>
        rw [if_neg Bool.false_ne_true]
        simp only at hl
        have e5 := e4.wipe vs
        rw [we] at e5
        obtain ⟨p5, _⟩ := p4.keeps e1.hot e5 (evo_drops vs)
        exact ⟨_, _, _, acc, F, p5, by omega, fun j hj x q => (wipeE_at q).2 hj, hl⟩
      | true =>
        rw [if_pos rfl]
        simp only at hl
        refine ⟨r4, M4, G4, e4, ?_⟩
        cases hf : f r4 with
        | no => rw [hf] at hl; cases hl
        | ex c fs r5 => rw [hf] at hl; cases hl
        | ok ym r5 =>
        obtain ⟨y, my⟩ := ym
        rw [hf] at hl
        simp only at hl
        intro w H5 M5 G5 F5 q5
        obtain ⟨p5, dis⟩ := p4.keeps e1.hot q5.er q5.ev
        have mem : D ∈ F := by
          cases own with
          | true =>
            have z : Ho K H5 (.ref D) (.l acc) F := p5.rp
            cases z with
            | l _ _ => exact List.mem_cons_self
          | false =>
            obtain ⟨a, us, zs, h1, _, h3, _⟩ := p5.rp
            cases h1
            rw [h3]
            exact List.mem_cons_self
        obtain ⟨us, F', hD5, hF, hul, ho1, ho2⟩ := Acc.at_ (own := own) ⟨p5.rp, mem⟩
        have hown : own = true → zfl (y, my) = true := fun z => by
          by_cases q : (own && !zfl (y, my)) = true
          · rw [if_pos q] at hl; cases hl
          · simp only [z, Bool.true_and, Bool.not_eq_true', Bool.not_eq_false] at q
            exact q
        have hl' : lcL vs t c f own (xs.drop (i + 1)) (wipeE r5 vs) (acc ++ [y]) = .ok ys r2 := by
          by_cases q : (own && !zfl (y, my)) = true
          · rw [if_pos q] at hl; cases hl
          · rw [if_neg q] at hl; exact hl
        refine ⟨us, hD5, by rw [hul]; exact Nat.lt_of_le_of_lt hacc (Nat.lt_of_lt_of_le hlt (lim_size hz)), wipeE r5 vs, fun b => M5 b ∧ (own = false → b ∉ F5), fun j => if j ∈ vs then [] else G5 j, acc ++ [y], F ++ (if own then F5 else []), ?_, by simp; omega, fun j hj x q => (wipeE_at q).2 hj, hl'⟩
        have hDM : M5 D ∧ ∀ j, D ∉ G5 j := p5.hot D mem
        have hDF : D ∉ F5 := dis D mem
        -- the list's cell changes: all else stays
        have stay : ∀ b o, H5 b = some o → b ≠ D → upd H5 D (.lst (us ++ [w])) b = some o := fun b o h q => by rw [upd_ne q]; exact h
        have ew5 := q5.er.wipe vs
        rw [we] at ew5
        have gsub : ∀ j b, b ∈ (fun j => if j ∈ vs then [] else G5 j) j → b ∈ G5 j := fun j b hb => by
          by_cases q : j ∈ vs
          · simp [q] at hb
          · simpa [q] using hb
        have fm6 : Fm M5 H5 (fun b => M5 b ∧ (own = false → b ∉ F5)) (upd H5 D (.lst (us ++ [w]))) := ⟨fun b o h hn => stay b o h fun z => hn (by rw [z]; exact hDM.1), fun b z => .inl z.1, q5.er.hot⟩
        have e6 : ER K (wipeE r5 vs) (wipe σ vs) (fun j => if j ∈ vs then [] else G5 j) (fun b => M5 b ∧ (own = false → b ∉ F5)) (upd H5 D (.lst (us ++ [w]))) :=
          ew5.evoF (fun b o h z => stay b o h fun q => by
            rcases z with z | ⟨j, z⟩
            · exact z (by rw [q]; exact hDM.1)
            · exact hDM.2 j (by rw [← q]; exact gsub j b z)) (fun b z => .inl z.1) (fun j b hb => ⟨q5.er.sub j b (gsub j b hb), fun _ z => (q5.hot b z).2 j (gsub j b hb)⟩) fun b z => by
            by_cases q : b = D
            · rw [q]; exact ⟨_, upd_same, trivial⟩
            · rw [upd_ne q]; exact q5.er.hot b z.1
        have tupS : ∀ b zs, Rd H5 b (.tup zs) → Rd (upd H5 D (.lst (us ++ [w]))) b (.tup zs) := fun b zs z => by
          have nb : b ≠ D := fun q => by
            rw [q] at z
            rcases z with z | ⟨o, z⟩ <;> (rw [hD5] at z; cases z)
          rcases z with z | ⟨o, z⟩
          · exact .inl (stay b _ z nb)
          · exact .inr ⟨o, stay b _ z nb⟩
        have v5 : Evo H1 M1 G1 H5 M5 G5 (F ++ F5) := by
          have v6 : Evo H1 M1 G1 H4 M4 G4 [] := ⟨p4.ev.pres', p4.ev.dom, p4.ev.grow, p4.ev.keep, p4.ev.env, fun _ z => nomatch z⟩
          have v7 := v6.trans e1.hot q5.ev
          exact ⟨v7.pres', v7.dom, v7.grow, v7.keep, v7.env, fun b hb => (List.mem_append.mp hb).elim (p5.ev.res b) (v7.res b)⟩
        have newD : H1 D = none := hD
        refine ⟨e6, ⟨fun b o h hb => stay b o (v5.pres b o h hb) fun q => (by rw [q, newD] at h; cases h), fun b h => ?_, fun b z => v5.grow b z.1, fun b h hb => ⟨v5.keep b h hb, fun _ z => ?_⟩, fun j b hb => v5.env j b (gsub j b hb), fun b hb => v5.res b ?_⟩, ?_, ?_, fun b hb => ?_⟩
        · by_cases q : b = D
          · rw [q, upd_same] at h; cases h
          · rw [upd_ne q] at h; exact v5.dom b h
        · rcases v5.res b (List.mem_append_right _ z) with ⟨j, q⟩ | q
          · exact hb j q
          · obtain ⟨zs, q2, _⟩ := e1.hot b h
            rw [q2] at q; cases q
        · rcases List.mem_append.mp hb with hb | hb
          · exact List.mem_append_left _ hb
          · cases own with
            | true => exact List.mem_append_right _ (by simpa using hb)
            | false => simp at hb
        · -- the grown list
          cases own with
          | true =>
            have hoy : Ho K H5 w y F5 := q5.rp.toA (hown rfl)
            have h6 := (ho1 rfl).snoc hoy
            show Ho K _ (.ref D) (.l (acc ++ [y])) _
            rw [hF]
            show Ho K _ (.ref D) (.l (acc ++ [y])) (D :: (F' ++ F5))
            refine .l upd_same (h6.stay tupS (fun b o u z => stay b _ z fun q => by rw [q, hD5] at z; cases z) fun b hb => upd_ne fun q => ?_)
            rw [q] at hb
            rcases List.mem_append.mp hb with hb | hb
            · have nd := p5.nd
              rw [hF] at nd
              exact (List.nodup_cons.mp nd).1 hb
            · exact hDF hb
          | false =>
            obtain ⟨c5, hF'⟩ := ho2 rfl
            have cw : Co K (fun b => M5 b ∧ (false = false → b ∉ F5)) H5 w y := q5.rp.cold q5.er.hot (fun b hb z => z.2 rfl hb) fun b z => z.1
            refine ⟨D, us ++ [w], acc ++ [y], rfl, rfl, by rw [hF, hF']; rfl, upd_same, (c5.fm fm6).snoc (cw.fm ⟨fun b o h hn => stay b o h fun q => hn (by rw [q]; exact ⟨hDM.1, fun _ => hDF⟩), fun b z => .inl z, fun b z => q5.er.hot b z.1⟩)⟩
        · cases own with
          | true =>
            simp only [if_true]
            refine List.nodup_append.mpr ⟨p5.nd, q5.nd, fun a ha b hb q => dis a ha (by rw [q]; exact hb)⟩
          | false => simpa using p5.nd
        · rcases List.mem_append.mp hb with hb | hb
          · exact ⟨⟨(p5.hot b hb).1, fun _ => dis b hb⟩, fun j hj => (p5.hot b hb).2 j (gsub j b hj)⟩
          · cases own with
            | true =>
              have hb : b ∈ F5 := by simpa using hb
              exact ⟨⟨(q5.hot b hb).1, fun z => nomatch z⟩, fun j hj => (q5.hot b hb).2 j (gsub j b hj)⟩
            | false => simp at hb
theorem mLc_ok {own : Bool} {vs : List Nat} {s : Ev → Ou (List Dt)} {t : Vl → Ev → Option Ev} {c : Ev → Ou Bool} {f : Ev → Ou Vl} {g : TG} {Q : VK} (hg : TgOk K false g t) (hw : TgW g vs) (h : tI K cl W (mLc own vs s t c f) σ H Q) :
    tLc (tII K cl W s) g (tIB K cl W0 c) (tI K cl W0 f) vs σ H Q := by
  obtain ⟨r, M, G, e, h⟩ := h
  exact mLc_go hg hw e (fun R q => ⟨r, M, G, e, q⟩) h
end
end Y
namespace Y
open PySem L2 PyProof.Rows
section
variable {X : Cx} {cl : Str → Addr} {W : WX} {io : Bool}
def mYes : Ev → Ou Bool := fun r => .ok true r
theorem _root_.L2.PTs.yimp {X : Cx} {e : List Expr} {t t' : TT} (h : PTs X e t) (k : ∀ σ H Q, t' σ H Q → t σ H Q) : PTs X e t' := ⟨fun pins s σ H Q I q => h.run pins s σ H Q I (k σ H Q q)⟩
theorem jts_nil : PTs X [] (tIB X.K cl W mYes) := pts_nil.yimp fun σ H Q ⟨r, M, G, e, q⟩ => q H M G e .refl
theorem jts_one {c : Expr} {f : Ev → Ou Bool} (h : JT X cl W0 c f) : PTs X [c] (tIB X.K cl W0 f) := pts_one (h takes0)
theorem je_lc {elt tg iter : Expr} {ifs : List Expr} {scope : Scope} {own : List (Str × Nat)} {pos : Pos} {s : Ev → Ou (List Dt)} {g : TG} {t : Vl → Ev → Option Ev} {c : Ev → Ou Bool} {f : Ev → Ou Vl} (b : Bool) (hc : X.calm = true) (hN : X.N.Nodup) (hi : JI X cl W tg iter s) (ok : BlkOk X.N X.env.scope scope own)
    (hg : ∀ (s : Shared) (H : Hp) (C : Addr) (cl : List (Str × Addr)) (fp : List Addr), PG (X.blk s H scope (compEnvC scope cl C X.env) fp) tg g) (hgt : TgOk X.K false g t) (hgw : TgW g (own.map (·.2)))
    (ht : ∀ (s : Shared) (H : Hp) (C : Addr) (cl2 : List (Str × Addr)) (fp : List Addr), PTs (X.blk s H scope (compEnvC scope cl2 C X.env) fp) ifs (tIB X.K cl W0 c))
    (he : ∀ (s : Shared) (H : Hp) (C : Addr) (cl2 : List (Str × Addr)) (fp : List Addr), JE (X.blk s H scope (compEnvC scope cl2 C X.env) fp) cl W0 elt f) (hs : ∀ x, foldedSetIterable iter X.env x = pure x := by intro _; rfl) :
    JE X cl W (.ListComp elt [⟨tg, iter, ifs, 0⟩] scope pos) (mLc b (own.map (·.2)) s t c f) := fun tk =>
  (pe_lc hc hN (hi tk) ok hg ht (fun s H C cl2 fp => he s H C cl2 fp takes0) hs).yimp fun σ H Q q => mLc_ok hgt hgw q
theorem js_setLc {elt tg iter : Expr} {ifs : List Expr} {scope : Scope} {own : List (Str × Nat)} {pos spos : Pos} {i : Nat} {y : Str} {py : Pos} {s : Ev → Ou (List Dt)} {g : TG} {t : Vl → Ev → Option Ev} {c : Ev → Ou Bool} {f : Ev → Ou Vl} (b : Bool) (hc : X.calm = true) (hN : X.N.Nodup) (hy : X.N[i]? = some y) (hyl : X.env.scope.names.lookup y = some .local)
    (hsw : swapsWith (.ListComp elt [⟨tg, iter, ifs, 0⟩] scope pos) (some (.Name y py)) spos.line X.env = pure true) (hio : io = true → i ≠ 0) (hi : JI X cl W tg iter s) (ok : BlkOk X.N X.env.scope scope own)
    (hg : ∀ (s : Shared) (H : Hp) (C : Addr) (cl : List (Str × Addr)) (fp : List Addr), PG (X.blk s H scope (compEnvC scope cl C X.env) fp) tg g) (hgt : TgOk X.K false g t) (hgw : TgW g (own.map (·.2)))
    (ht : ∀ (s : Shared) (H : Hp) (C : Addr) (cl2 : List (Str × Addr)) (fp : List Addr), PTs (X.blk s H scope (compEnvC scope cl2 C X.env) fp) ifs (tIB X.K cl W0 c))
    (he : ∀ (s : Shared) (H : Hp) (C : Addr) (cl2 : List (Str × Addr)) (fp : List Addr), JE (X.blk s H scope (compEnvC scope cl2 C X.env) fp) cl W0 elt f) (hs : ∀ x, foldedSetIterable iter X.env x = pure x := by intro _; rfl) :
    JS X cl W io (.Assign [.Name y py] (.ListComp elt [⟨tg, iter, ifs, 0⟩] scope pos) spos) (sAsg (mLc b (own.map (·.2)) s t c f) (tgV i)) := fun tk =>
  (ps_setLc hc hN hy hyl hsw (hi tk) ok hg ht (fun s H C cl2 fp => he s H C cl2 fp takes0) hs).yimp fun D σ H q => asg_go (g := gName i) (tg_name hio) q |> fun z => mLc_ok hgt hgw z
end
section
variable {K : PySem.W.Frag} {cl : Str → Addr} {W : WX} {io : Bool} {M M' M0 : Addr → Prop} {H H' H0 : Hp} {G G' G0 : Nat → List Addr} {r r' : Ev} {σ σ0 : L2.St} {D : Ends}
def evH : List (Ev → Ou Vl) → Ev → Ou (List Vl)
  | [], r => .ok [] r
  | f :: fs, r => match f r with
    | .ok x r1 => match evH fs r1 with
      | .ok xs r2 => .ok (x :: xs) r2
      | .ex c fs r2 => .ex c fs r2
      | .no => .no
    | .ex c fs r1 => .ex c fs r1
    | .no => .no
inductive HL (K : PySem.W.Frag) (M : Addr → Prop) (H : Hp) : List V → List Vl → List Addr → Prop
  | nil : HL K M H [] [] []
  | cons {v : V} {vs : List V} {x : Dt} {m : Md} {xs : List Vl} {F F' : List Addr} : Rp K M H m v x F → HL K M H vs xs F' → HL K M H (v :: vs) ((x, m) :: xs) (F ++ F')
structure HX (K : PySem.W.Frag) (r' : Ev) (σ : L2.St) (H : Hp) (M : Addr → Prop) (G : Nat → List Addr) (vs : List V) (xs : List Vl) (H' : Hp) (M' : Addr → Prop) (G' : Nat → List Addr) (F : List Addr) : Prop where
  er : ER K r' σ G' M' H'
  ev : Evo H M G H' M' G' F
  hl : HL K M' H' vs xs F
  nd : F.Nodup
  hot : ∀ b ∈ F, M' b ∧ ∀ i, b ∉ G' i
theorem tOs_hold : ∀ (fs : List (Ev → Ou Vl)) {r : Ev} {M : Addr → Prop} {G : Nat → List Addr} {H : Hp} {k : List V → Hp → Prop}, ER K r σ G M H →
    (match evH fs r with
      | .ok xs r' => ∀ vs H' M' G' F, HX K r' σ H M G vs xs H' M' G' F → k vs H'
      | .ex c fs r' => ∀ d H' M' G', XX K r' σ H M G fs d H' M' G' → W (.ref (cl c)) d σ H'
      | .no => False) → tOs K cl W (fs.map .e) σ H k
  | [], r, M, G, H, k, e, h => h [] H M G [] ⟨e, .refl, .nil, List.nodup_nil, fun _ z => nomatch z⟩
  | f :: fs, r, M, G, H, k, e, h => by
    show tI K cl W f σ H _
    refine ⟨r, M, G, e, ?_⟩
    simp only [evH] at h
    cases hf : f r with
    | no => rw [hf] at h; exact h
    | ex c fs r1 => rw [hf] at h; exact h
    | ok xm r1 =>
      obtain ⟨x, m⟩ := xm
      rw [hf] at h
      intro v H1 M1 G1 F1 p
      refine tOs_hold fs p.er ?_
      simp only at h
      have v1 : Evo H M G H1 M1 G1 [] := ⟨p.ev.pres', p.ev.dom, p.ev.grow, p.ev.keep, p.ev.env, fun _ z => nomatch z⟩
      cases ha : evH fs r1 with
      | no => rw [ha] at h; exact h
      | ex c fs r2 =>
        rw [ha] at h
        exact fun d H3 M3 G3 q => h d H3 M3 G3 ⟨q.er, v1.trans e.hot q.ev, q.xd⟩
      | ok xs r2 =>
        rw [ha] at h
        intro vs H3 M3 G3 F3 q
        obtain ⟨p3, dis⟩ := p.keeps e.hot q.er q.ev
        have v3 := v1.trans e.hot q.ev
        refine h (v :: vs) H3 M3 G3 (F1 ++ F3) ⟨q.er, ⟨v3.pres', v3.dom, v3.grow, v3.keep, v3.env, fun b hb => (List.mem_append.mp hb).elim (p3.ev.res b) (v3.res b)⟩, .cons p3.rp q.hl, List.nodup_append.mpr ⟨p3.nd, q.nd, fun a ha b hb z => dis a ha (by rw [z]; exact hb)⟩, fun b hb => (List.mem_append.mp hb).elim (p3.hot b) (q.hot b)⟩
def putE : List Nat → List Vl → Ev → Option Ev
  | [], [], r => some r
  | i :: is, x :: xs, r => if i < r.length then putE is xs (r.set i (some x)) else none
  | _, _, _ => none
def putS : List Nat → List V → L2.St → L2.St
  | i :: is, v :: vs, σ => putS is vs (σ.set i (some v))
  | _, _, σ => σ
theorem HL.len : ∀ {vs : List V} {xs : List Vl} {F : List Addr}, HL K M H vs xs F → vs.length = xs.length
  | _, _, _, .nil => rfl
  | _, _, _, .cons _ q => congrArg (· + 1) q.len
theorem ER.puts : ∀ {is : List Nat} {vs : List V} {xs : List Vl} {F : List Addr} {r r' : Ev} {σ : L2.St} {G : Nat → List Addr}, ER K r σ G M H → HL K M H vs xs F → F.Nodup → (∀ b ∈ F, M b ∧ ∀ i, b ∉ G i) → putE is xs r = some r' →
    ∃ G', ER K r' (putS is vs σ) G' M H ∧ (∀ j b, b ∈ G' j → b ∈ G j ∨ b ∈ F) ∧ is.length = vs.length
  | [], _, _, _, r, r', σ, G, e, .nil, _, _, h => by
    simp only [putE] at h
    cases h
    exact ⟨G, e, fun _ _ h => .inl h, rfl⟩
  | [], _, _, _, r, r', σ, G, e, .cons _ _, _, _, h => by simp [putE] at h
  | i :: is, _, _, _, r, r', σ, G, e, .nil, _, _, h => by simp [putE] at h
  | i :: is, _, _, _, r, r', σ, G, e, .cons (F := F1) (F' := F2) rp q, nd, hot, h => by
    simp only [putE] at h
    split at h
    · rename_i hi
      obtain ⟨n1, n2, n3⟩ := List.nodup_append.mp nd
      have e1 := e.put rp n1 (fun b hb => hot b (List.mem_append_left _ hb)) (by rw [← e.len]; exact hi)
      obtain ⟨G', e2, g2, hl⟩ := ER.puts e1 q n2 (fun b hb => ⟨(hot b (List.mem_append_right _ hb)).1, fun j hj => by
        by_cases z : j = i
        · simp only [if_pos z] at hj; exact n3 b hj b hb rfl
        · simp only [if_neg z] at hj; exact (hot b (List.mem_append_right _ hb)).2 j hj⟩) h
      refine ⟨G', e2, fun j b hb => ?_, by simp [hl]⟩
      rcases g2 j b hb with z | z
      · by_cases y : j = i
        · simp only [if_pos y] at z; exact .inr (List.mem_append_left _ z)
        · simp only [if_neg y] at z; exact .inl z
      · exact .inr (List.mem_append_right _ z)
    · cases h
theorem putS_0 : ∀ {is : List Nat} {vs : List V} {σ : L2.St}, 0 ∉ is → (putS is vs σ)[0]? = σ[0]?
  | [], _, _, _ => rfl
  | i :: is, [], _, _ => rfl
  | i :: is, v :: vs, σ, h => by
    show (putS is vs (σ.set i (some v)))[0]? = _
    rw [putS_0 (fun z => h (List.mem_cons_of_mem _ z)), List.getElem?_set_ne (fun z => h (by rw [z]; exact List.mem_cons_self))]
/-- a, b = x, y -/
def sPar (is : List Nat) (fs : List (Ev → Ou Vl)) : Ev → So := fun r => match evH fs r with
  | .ok xs r1 => match putE is xs r1 with
    | some r2 => .nx r2
    | none => .no
  | .ex c fs r1 => .ex c fs r1
  | .no => .no
theorem par_go {is : List Nat} {fs : List (Ev → Ou Vl)} (hio : io = true → 0 ∉ is) (h : tIS K cl W io (sPar is fs) D σ H) : tOs K cl W (fs.map .e) σ H fun vs H1 => is.length = vs.length ∧ D.nx (putS is vs σ) H1 ∧ ∀ H2, (∀ b o, H1 b = some o → H2 b = some o) → D.nx (putS is vs σ) H2 := by
  obtain ⟨r, M, G, e, h⟩ := h
  refine tOs_hold fs e ?_
  simp only [sPar] at h
  cases ha : evH fs r with
  | no => rw [ha] at h; exact h
  | ex c fs r1 => rw [ha] at h; exact fun d H' M' G' p => h d σ H' M' G' ⟨p, fun _ => rfl⟩
  | ok xs r1 =>
    rw [ha] at h
    intro vs H1 M1 G1 F p
    simp only at h
    cases hp : putE is xs r1 with
    | none => rw [hp] at h; exact h.elim
    | some r2 =>
      rw [hp] at h
      obtain ⟨G2, e2, g2, hl⟩ := ER.puts p.er p.hl p.nd p.hot hp
      have v2 : Evo H M G H1 M1 G2 [] := ⟨p.ev.pres', p.ev.dom, p.ev.grow, p.ev.keep, fun j b hb => (g2 j b hb).elim (p.ev.env j b) (p.ev.res b), fun _ z => nomatch z⟩
      have pin : io = true → (putS is vs σ)[0]? = σ[0]? := fun z => putS_0 (hio z)
      refine ⟨hl, h _ H1 M1 G2 ⟨e2, v2, pin⟩, fun H2 g => ?_⟩
      obtain ⟨e3, v3⟩ := e2.grown g
      exact h _ H2 M1 G2 ⟨e3, v2.trans e.hot v3, pin⟩
def fin (io : Bool) (x : Vl) (r : Ev) : Fo := match io with
  | false => .rt x (.n, .c)
  | true => match r[0]? with
    | some (some z) => .rt x z
    | _ => .no
def finX (io : Bool) (c : Str) (fs : List (Str × Dt)) (r : Ev) : Fo := match io with
  | false => .ex c fs (.n, .c)
  | true => match r[0]? with
    | some (some z) => .ex c fs z
    | _ => .no
def mkFn (io : Bool) (n : Nat) (g : Ev → So) : Fn := fun xs => match g (xs.map some ++ List.replicate (n - xs.length) none) with
  | .rt x r => fin io x r
  | .nx r => fin io (.n, .c) r
  | .ex c fs r => finX io c fs r
  | _ => .no
theorem ER.pad {a : Ev} {b : L2.St} (e : ER K a b G M H) (n : Nat) : ER K (a ++ List.replicate n none) (b ++ List.replicate n none) G M H := by
  refine ⟨by simp [e.len], fun i x m h => ?_, fun i h => e.emp i fun x m q => h x m ?_, e.nd, e.dj, e.sub, e.hot, e.tab⟩
  · by_cases q : i < a.length
    · rw [List.getElem?_append_left q] at h
      obtain ⟨v, h1, h2⟩ := e.at_ i x m h
      exact ⟨v, by rw [List.getElem?_append_left (by rw [← e.len]; exact q)]; exact h1, h2⟩
    · rw [List.getElem?_append_right (by omega), List.getElem?_replicate] at h
      split at h <;> cases h
  · rw [List.getElem?_append_left (List.getElem?_eq_some_iff.mp q).1]; exact q
theorem ER.head {z : Vl} {v0 : V} (e : ER K r σ G M H) (h1 : r[0]? = some (some z)) (h2 : σ[0]? = some (some v0)) : ER K [some z] [some v0] (fun i => if i = 0 then G 0 else []) M H := by
  refine ⟨rfl, fun i x m h => ?_, fun i h => ?_, fun i => ?_, fun i j hne b hb => ?_, fun i b hb => ?_, e.hot, e.tab⟩
  · cases i with
    | zero =>
      simp at h
      subst h
      obtain ⟨v, h3, h4⟩ := e.at_ 0 x m h1
      rw [h2] at h3; cases h3
      exact ⟨v0, rfl, by simpa using h4⟩
    | succ i => simp at h
  · cases i with
    | zero => exact absurd rfl (h z.1 z.2)
    | succ i => simp
  · cases i with
    | zero => simpa using e.nd 0
    | succ i => simp
  · cases i with
    | zero => cases j with
      | zero => exact absurd rfl hne
      | succ j => simp
    | succ i => simp at hb
  · cases i with
    | zero => exact e.sub 0 b (by simpa using hb)
    | succ i => simp at hb
theorem ER.empt (e : ER K r σ G M H) : ER K [] [] (fun _ => []) M H := ⟨rfl, fun i x m h => by simp at h, fun _ _ => rfl, fun _ => List.nodup_nil, fun _ _ _ _ h => (nomatch h), fun _ _ h => (nomatch h), e.hot, e.tab⟩
theorem Evo.less {F : List Addr} {G2 : Nat → List Addr} (a : Evo H M G H' M' G' F) (h : ∀ i b, b ∈ G2 i → ∃ j, b ∈ G' j) : Evo H M G H' M' G2 F :=
  ⟨a.pres', a.dom, a.grow, a.keep, fun i b hb => let ⟨j, q⟩ := h i b hb; a.env j b q, a.res⟩
theorem out_px {vs : List V} {σ' : L2.St} {v : V} {x : Dt} {m : Md} {F : List Addr} {z : Vl} (hv : io = true → ∃ v0, σ'[0]? = some (some v0) ∧ ioS true vs = [some v0]) (hz : io = true → r'[0]? = some (some z)) (p : PX K r' σ' H M G v x m H' M' G' F) :
    ∃ G2, PX K (ioE io z) (ioS io vs) H M G v x m H' M' G2 F := by
  cases io with
  | false => exact ⟨_, p.er.empt, p.ev.less fun _ _ h => (nomatch h), p.rp, p.nd, fun b hb => ⟨(p.hot b hb).1, fun _ h => nomatch h⟩⟩
  | true =>
    obtain ⟨v0, h1, h2⟩ := hv rfl
    refine ⟨fun i => if i = 0 then G' 0 else [], ?_, p.ev.less fun i b hb => ⟨0, ?_⟩, p.rp, p.nd, fun b hb => ⟨(p.hot b hb).1, fun i hi => ?_⟩⟩
    · rw [h2]; exact p.er.head (hz rfl) h1
    · cases i with
      | zero => simpa using hb
      | succ i => simp at hb
    · cases i with
      | zero => exact (p.hot b hb).2 0 (by simpa using hi)
      | succ i => simp at hi
theorem out_xx {vs : List V} {σ' : L2.St} {fs : List (Str × Dt)} {d : Option Addr} {z : Vl} (hv : io = true → ∃ v0, σ'[0]? = some (some v0) ∧ ioS true vs = [some v0]) (hz : io = true → r'[0]? = some (some z)) (p : XX K r' σ' H M G fs d H' M' G') :
    ∃ G2, XX K (ioE io z) (ioS io vs) H M G fs d H' M' G2 := by
  cases io with
  | false => exact ⟨_, p.er.empt, p.ev.less fun _ _ h => (nomatch h), p.xd⟩
  | true =>
    obtain ⟨v0, h1, h2⟩ := hv rfl
    refine ⟨fun i => if i = 0 then G' 0 else [], ?_, p.ev.less fun i b hb => ⟨0, ?_⟩, p.xd⟩
    · rw [h2]; exact p.er.head (hz rfl) h1
    · cases i with
      | zero => simpa using hb
      | succ i => simp at hb
end
section
variable {P : Program} {w : World} {K : PySem.W.Frag} {mg : Str → Option Value} {base : Heap} {cl : Str → Addr} {io : Bool}
/-- THE RULE for a def -/
theorem fn_ok {x qual : Str} {st : Stmt} {f : Addr} {fd : FuncData} {N ps : List Str} {k n nn : Nat} {g : Ev → So} (F : Fun K x qual st f fd) (S : FnScope N ps (defScope st)) (hn : ps.length = n := by rfl) (hnn : N.length = nn := by rfl) (hio : io = true → 0 < n := by decide)
    (hb : ∀ (cdv : Value) (A : Around) (outer : List Env) (s : Shared) (H : Hp) (E : XK), Room k (A.deeper (envOfC qual (defScope st) s.heap.objs.size f cdv)) → JB (cxOf (L2.CX P w) P w K mg base N qual (defScope st) f cdv A outer s H E) cl (fun cls d _ H => E cls d H) io (defBody st) g) :
    FnOk P w K mg base (L2.CX P w) (k + 1) f fd ps (spY K cl io n (mkFn io nn g)) := by
  subst hn hnn
  refine fn_okX F S (fun vs H Q E h => h.1) fun cdv A outer s H vs Q E hr h => ⟨_, hb cdv A outer s H E hr (takes_of rfl rfl rfl rfl), ?_⟩
  obtain ⟨hlen, xs, M, G, e, gio, h⟩ := h
  have hxl : xs.length = vs.length := by simpa using e.len
  have e0 : ER K (xs.map some ++ List.replicate (N.length - xs.length) none) (start N vs) G M H := by
    have := e.pad (N.length - xs.length)
    rw [hxl] at this ⊢
    exact this
  refine ⟨_, M, G, e0, ?_⟩
  have first : io = true → ∃ v0, (start N vs)[0]? = some (some v0) ∧ ioS true vs = [some v0] := fun z => by
    have := hio z
    cases vs with
    | nil => simp at hlen; omega
    | cons v0 vs => exact ⟨v0, rfl, by simp [ioS]⟩
  simp only [mkFn] at h
  have done : ∀ (x : Dt) (m : Md) (r' : Ev), (match fin io (x, m) r' with
      | .rt (x, m) z => ∀ v H' M' G' F, PX K (ioE io z) (ioS io vs) H M G v x m H' M' G' F → Q v H'
      | .ex c fs z => ∀ d H' M' G', XX K (ioE io z) (ioS io vs) H M G fs d H' M' G' → E (.ref (cl c)) d H'
      | .no => False) → ∀ v σ' H' M' G' F, RX K io r' (start N vs) σ' H M G v x m H' M' G' F → Q v H' := fun x m r' h v σ' H' M' G' F p => by
    have hv : io = true → ∃ v0, σ'[0]? = some (some v0) ∧ ioS true vs = [some v0] := fun z => by
      obtain ⟨v0, h1, h2⟩ := first z
      exact ⟨v0, (p.pin z).trans h1, h2⟩
    cases io with
    | false =>
      simp only [fin] at h
      obtain ⟨G2, q⟩ := out_px (z := (.n, .c)) (vs := vs) hv (fun z => nomatch z) p.px
      exact h v H' M' G2 F q
    | true =>
      simp only [fin] at h
      cases hr : r'[0]? with
      | none => rw [hr] at h; exact h.elim
      | some o =>
        cases o with
        | none => rw [hr] at h; exact h.elim
        | some z =>
          rw [hr] at h
          obtain ⟨G2, q⟩ := out_px (z := z) (vs := vs) hv (fun _ => hr) p.px
          exact h v H' M' G2 F q
  cases hg : g (xs.map some ++ List.replicate (N.length - xs.length) none) with
  | no => rw [hg] at h; exact h
  | bk r' => rw [hg] at h; exact h.elim
  | ct r' => rw [hg] at h; exact h.elim
  | nx r' =>
    rw [hg] at h
    exact fun σ' H' M' G' p => done .n .c r' h .non σ' H' M' G' [] ⟨⟨p.er, p.ev, ⟨.n, rfl⟩, List.nodup_nil, fun _ z => (nomatch z)⟩, p.pin⟩
  | rt xm r' =>
    obtain ⟨x, m⟩ := xm
    rw [hg] at h
    exact fun v σ' H' M' G' F p => done x m r' h v σ' H' M' G' F p
  | ex c fs r' =>
    rw [hg] at h
    intro d σ' H' M' G' p
    have hv : io = true → ∃ v0, σ'[0]? = some (some v0) ∧ ioS true vs = [some v0] := fun z => by
      obtain ⟨v0, h1, h2⟩ := first z
      exact ⟨v0, (p.pin z).trans h1, h2⟩
    cases io with
    | false =>
      simp only [finX] at h
      obtain ⟨G2, q⟩ := out_xx (z := (.n, .c)) (vs := vs) hv (fun z => nomatch z) p.xx
      exact h d H' M' G2 q
    | true =>
      simp only [finX] at h
      cases hr : r'[0]? with
      | none => rw [hr] at h; exact h.elim
      | some o =>
        cases o with
        | none => rw [hr] at h; exact h.elim
        | some z =>
          rw [hr] at h
          obtain ⟨G2, q⟩ := out_xx (z := z) (vs := vs) hv (fun _ => hr) p.xx
          exact h d H' M' G2 q
end
end Y
namespace Y
open PySem L2 PyProof.Rows
section
variable {K : PySem.W.Frag} {M M' : Addr → Prop} {H H' : Hp}
theorem mk_c (ht : Hotty M H) {v : V} {x : Dt} (c : Co K M H v x) : Mk K H M v x .c H [] := ⟨fun _ _ h => h, fun _ z => (nomatch z), List.nodup_nil, c.less (fun b z => z.elim id fun z => (nomatch z)) ht, rfl⟩
theorem Pr.or {rr rr' : List V → Hp → VK → Prop} {f f' : List Dt → Option Vl} (h : Pr K rr f) (h' : Pr K rr' f') : Pr K (fun vs H Q => rr vs H Q ∨ rr' vs H Q) (fun xs => (f xs).or (f' xs)) := fun M H vs xs x m Q ht c hf k => by
  have hf : (f xs).or (f' xs) = some (x, m) := hf
  cases e : f xs with
  | some y => rw [e, Option.some_or] at hf; cases hf; exact .inl (h M H vs xs x m Q ht c e k)
  | none => rw [e, Option.none_or] at hf; exact .inr (h' M H vs xs x m Q ht c hf k)
theorem Pr.imp {rr rr' : List V → Hp → VK → Prop} {f : List Dt → Option Vl} (h : Pr K rr f) (i : ∀ vs H Q, rr vs H Q → rr' vs H Q) : Pr K rr' f := fun M H vs xs x m Q ht c hf k => i _ _ _ (h M H vs xs x m Q ht c hf k)
theorem Pr.or2 {r r' : R2} {f f' : List Dt → Option Vl} (h : Pr K (ap2 r) f) (h' : Pr K (ap2 r') f') : Pr K (ap2 fun x y H Q => r x y H Q ∨ r' x y H Q) (fun xs => (f xs).or (f' xs)) := (h.or h').imp fun vs H Q z => by
  match vs, z with
  | [x, y], z => exact z
  | [], .inl z => exact z
  | [], .inr z => exact z
  | [_], .inl z => exact z
  | [_], .inr z => exact z
  | _ :: _ :: _ :: _, .inl z => exact z
  | _ :: _ :: _ :: _, .inr z => exact z
theorem CoL.two {vs : List V} {x y : Dt} (c : CoL K M H vs [x, y]) : ∃ v w, vs = [v, w] ∧ Co K M H v x ∧ Co K M H w y := by
  cases c with
  | cons h q => cases q with
    | cons h2 q2 => cases q2; exact ⟨_, _, rfl, h, h2⟩
theorem CoL.one {vs : List V} {x : Dt} (c : CoL K M H vs [x]) : ∃ v, vs = [v] ∧ Co K M H v x := by
  cases c with
  | cons h q => cases q; exact ⟨_, rfl, h⟩
theorem Co.int {v : V} {a : Int} (c : Co K M H v (.i a)) : v = .int a := by cases c; rfl
theorem Co.bl {v : V} {a : Bool} (c : Co K M H v (.b a)) : v = .bl a := by cases c; rfl
theorem Co.str {v : V} {a : Str} (c : Co K M H v (.s a)) : v = .str a := by cases c; rfl
theorem Co.non {v : V} (c : Co K M H v .n) : v = .non := by cases c; rfl
theorem Co.lst {v : V} {xs : List Dt} (c : Co K M H v (.l xs)) : ∃ a vs, v = .ref a ∧ H a = some (.lst vs) ∧ CoL K M H vs xs := by cases c with | l h _ q => exact ⟨_, _, rfl, h, q⟩
theorem Co.tup {v : V} {xs : List Dt} (c : Co K M H v (.t xs)) : ∃ a vs, v = .ref a ∧ SqT K H a vs ∧ CoL K M H vs xs := by cases c with | t h q => exact ⟨_, _, rfl, h, q⟩
theorem Co.frz {v : V} {xs : List Dt} (c : Co K M H v (.z xs)) : ∃ a vs, v = .ref a ∧ SqF K H a vs ∧ CoL K M H vs xs := by cases c with | z h q => exact ⟨_, _, rfl, h, q⟩
def fII (g : Int → Int → Dt) : List Dt → Option Vl
  | [.i a, .i b] => some (g a b, .c)
  | _ => none
def fIC (C : Int → Int → Bool) (g : Int → Int → Dt) : List Dt → Option Vl
  | [.i a, .i b] => if C a b then some (g a b, .c) else none
  | _ => none
theorem pr_i0 {g : Int → Int → V} {g' : Int → Int → Dt} (hg : ∀ a b M H, Co K M H (g a b) (g' a b)) : Pr K (ap2 (rI0 g)) (fII g') := fun M H vs xs x m Q ht c hf k => by
  unfold fII at hf
  split at hf
  · cases hf
    obtain ⟨v, w, rfl, c1, c2⟩ := c.two
    exact ⟨_, _, c1.int, c2.int, k _ _ _ (mk_c ht (hg _ _ _ _))⟩
  · cases hf
theorem pr_iC {C : Int → Int → Prop} {C' : Int → Int → Bool} {g : Int → Int → V} {g' : Int → Int → Dt} (hC : ∀ a b, C' a b = true → C a b) (hg : ∀ a b M H, Co K M H (g a b) (g' a b)) : Pr K (ap2 (rI C g)) (fIC C' g') := fun M H vs xs x m Q ht c hf k => by
  unfold fIC at hf
  split at hf
  · split at hf
    · rename_i h
      cases hf
      obtain ⟨v, w, rfl, c1, c2⟩ := c.two
      exact ⟨_, _, c1.int, c2.int, hC _ _ h, k _ _ _ (mk_c ht (hg _ _ _ _))⟩
    · cases hf
  · cases hf
def fCatL : List Dt → Option Vl
  | [.l xs, .l ys] => if xs.length + ys.length ≤ LIM then some (.l (xs ++ ys), .t) else none
  | _ => none
theorem CoL.app : ∀ {vs us : List V} {xs ys : List Dt}, CoL K M H vs xs → CoL K M H us ys → CoL K M H (vs ++ us) (xs ++ ys)
  | _, _, _, _, .nil, q => q
  | _, _, _, _, .cons a b, q => .cons a (b.app q)
theorem pr_catL : Pr K (ap2 rCat) fCatL := fun M H vs xs x m Q ht c hf k => by
  unfold fCatL at hf
  split at hf
  · split at hf
    · rename_i h
      cases hf
      obtain ⟨v, w, rfl, c1, c2⟩ := c.two
      obtain ⟨a, us, rfl, h1, q1⟩ := c1.lst
      obtain ⟨b, ws, rfl, h2, q2⟩ := c2.lst
      exact ⟨a, b, us, ws, rfl, rfl, h1, h2, by rw [q1.len, q2.len]; exact lim_size h, fun p hp => k _ _ _ (mk_lst ht hp (q1.app q2))⟩
    · cases hf
  · cases hf
def fCatT : List Dt → Option Vl
  | [.t xs, .t ys] => if xs.length + ys.length ≤ LIM then some (.t (xs ++ ys), .c) else none
  | _ => none
theorem CoL.nilD {xs : List Dt} (c : CoL K M H [] xs) : xs = [] := by cases c; rfl
theorem pr_catT : Pr K (ap2 (rCatA K)) fCatT := fun M H vs xs x m Q ht c hf k => by
  unfold fCatT at hf
  split at hf
  · split at hf
    · rename_i h
      cases hf
      obtain ⟨v, w, rfl, c1, c2⟩ := c.two
      obtain ⟨a, us, rfl, h1, q1⟩ := c1.tup
      obtain ⟨b, ws, rfl, h2, q2⟩ := c2.tup
      refine ⟨a, b, us, ws, rfl, rfl, h1, h2, by rw [q1.len, q2.len]; exact lim_size h, fun e => ?_, fun _ e => ?_, fun _ _ p hp => k _ _ _ (mk_tup ht hp (q1.app q2))⟩
      · subst e
        have z := q1.nilD
        rw [z, List.nil_append] at k
        exact k _ _ _ (mk_c ht (.t h2 q2))
      · subst e
        have z := q2.nilD
        rw [z, List.append_nil] at k
        exact k _ _ _ (mk_c ht (.t h1 q1))
    · cases hf
  · cases hf
def fCatS : List Dt → Option Vl
  | [.s a, .s b] => if a.length + b.length ≤ LIM then some (.s (a ++ b), .c) else none
  | _ => none
theorem pr_catS : Pr K (ap2 fun x y H Q => ∃ i j, x = .str i ∧ y = .str j ∧ i.length + j.length ≤ sizeLine ∧ Q (.str (i ++ j)) H) fCatS := fun M H vs xs x m Q ht c hf k => by
  unfold fCatS at hf
  split at hf
  · split at hf
    · rename_i h
      cases hf
      obtain ⟨v, w, rfl, c1, c2⟩ := c.two
      exact ⟨_, _, c1.str, c2.str, lim_size h, k _ _ _ (mk_c ht (.s _))⟩
    · cases hf
  · cases hf
def fRepL : List Dt → Option Vl
  | [.l xs, .i n] => if n ≤ 1000000 ∧ -1000000 ≤ n ∧ xs.length * n.toNat ≤ LIM then some (.l (List.replicate n.toNat xs).flatten, .t) else none
  | _ => none
theorem CoL.rep {vs : List V} {xs : List Dt} (c : CoL K M H vs xs) : ∀ n : Nat, CoL K M H (List.replicate n vs).flatten (List.replicate n xs).flatten
  | 0 => .nil
  | n + 1 => by
    rw [List.replicate_succ, List.replicate_succ, List.flatten_cons, List.flatten_cons]
    exact c.app (CoL.rep c n)
theorem pr_repL : Pr K (ap2 rRep) fRepL := fun M H vs xs x m Q ht c hf k => by
  unfold fRepL at hf
  split at hf
  · split at hf
    · rename_i h
      cases hf
      obtain ⟨v, w, rfl, c1, c2⟩ := c.two
      obtain ⟨a, us, rfl, h1, q1⟩ := c1.lst
      exact ⟨a, _, us, rfl, c2.int, h1, by omega, by omega, by rw [q1.len]; exact lim_size h.2.2, fun p hp => k _ _ _ (mk_lst ht hp (q1.rep _))⟩
    · cases hf
  · cases hf
variable {X : Cx}
def fAdd : List Dt → Option Vl := fun xs => (fII (fun a b => .i (a + b)) xs).or ((fCatL xs).or ((fCatT xs).or (fCatS xs)))
def rAddA (K : PySem.W.Frag) : R2 := fun x y H Q => rI0 (fun i j => .int (i + j)) x y H Q ∨ (rCat x y H Q ∨ (rCatA K x y H Q ∨ (∃ i j, x = .str i ∧ y = .str j ∧ i.length + j.length ≤ sizeLine ∧ Q (.str (i ++ j)) H)))
theorem or_add : OpR X (binaryOp .Add) (rAddA X.K) := op_add.or (op_cat.or (op_catA.or op_add_str))
theorem pr_add : Pr K (ap2 (rAddA K)) fAdd := (pr_i0 fun a b M H => .i _).or2 (pr_catL.or2 (pr_catT.or2 pr_catS))
def fSub : List Dt → Option Vl := fII fun a b => .i (a - b)
theorem pr_sub : Pr K (ap2 (rI0 fun i j => .int (i - j))) fSub := pr_i0 fun a b M H => .i _
def cMul (i j : Int) : Bool := (decide (-(2 ^ 64) < i) && decide (i < 2 ^ 64)) || (decide (-(2 ^ 64) < j) && decide (j < 2 ^ 64))
theorem cMul_ok {i j : Int} (h : cMul i j = true) : CMul i j := by
  simp only [cMul, Bool.or_eq_true, Bool.and_eq_true, decide_eq_true_eq] at h
  exact h
def fMulI : List Dt → Option Vl := fIC cMul fun a b => .i (a * b)
def fDiv : List Dt → Option Vl := fIC (fun _ j => decide (0 < j) && decide (j.natAbs.log2 < 9000)) fun a b => .i (a / b)
theorem pr_div : Pr K (ap2 (rI CDivW fun i j => .int (i / j))) fDiv := pr_iC (fun a b h => by simpa [CDivW] using h) fun a b M H => .i _
def fMod : List Dt → Option Vl := fIC (fun _ j => decide (0 < j)) fun a b => .i (a % b)
theorem pr_mod : Pr K (ap2 (rI (fun _ j => 0 < j) fun i j => .int (i % j))) fMod := pr_iC (fun a b h => by simpa using h) fun a b M H => .i _
def fPow : List Dt → Option Vl := fIC (fun i j => decide (0 ≤ j) && decide (j ≤ 1000000) && decide (i.natAbs < 2 ^ 64)) fun a b => .i (a ^ b.toNat)
theorem pr_pow : Pr K (ap2 (rI CPow fun i j => .int (i ^ j.toNat))) fPow := pr_iC (fun a b h => by
  simp only [Bool.and_eq_true, decide_eq_true_eq] at h
  exact ⟨h.1.1, h.1.2, h.2⟩) fun a b M H => .i _
def fNeg : List Dt → Option Vl
  | [.i a] => some (.i (-a), .c)
  | _ => none
theorem pr_neg : Pr K (ap1 (rU fun i => .int (-i))) fNeg := fun M H vs xs x m Q ht c hf k => by
  unfold fNeg at hf
  split at hf
  · cases hf
    obtain ⟨v, rfl, c1⟩ := c.one
    exact ⟨_, c1.int, k _ _ _ (mk_c ht (.i _))⟩
  · cases hf
def fLt : List Dt → Option Vl := fII fun a b => .b (decide (a < b))
def fLe : List Dt → Option Vl := fII fun a b => .b (decide (a ≤ b))
def fGt : List Dt → Option Vl := fII fun a b => .b (decide (b < a))
def fGe : List Dt → Option Vl := fII fun a b => .b (decide (b ≤ a))
theorem pr_lt : Pr K (ap2 (rI0 fun i j => .bl (decide (i < j)))) fLt := pr_i0 fun a b M H => .b _
theorem pr_le : Pr K (ap2 (rI0 fun i j => .bl (decide (i ≤ j)))) fLe := pr_i0 fun a b M H => .b _
theorem pr_gt : Pr K (ap2 (rI0 fun i j => .bl (decide (j < i)))) fGt := pr_i0 fun a b M H => .b _
theorem pr_ge : Pr K (ap2 (rI0 fun i j => .bl (decide (j ≤ i)))) fGe := pr_i0 fun a b M H => .b _
/-- what is no plain data: deep, a dict within -/
def badP : Nat → PyData
  | 0 => .dict []
  | n + 1 => .list [badP n]
theorem badP_can : ∀ n, (badP n).canLay0 = false
  | 0 => by simp [badP, PyData.canLay0]
  | n + 1 => by simp [badP, PyData.canLay0, PyData.canLayAll0, badP_can n]
theorem badP_dep : ∀ n, n ≤ (badP n).depth
  | 0 => Nat.zero_le _
  | n + 1 => by
    have := badP_dep n
    simp only [badP, PyData.depth, PyData.depthAll]
    omega
mutual
def toP : Dt → PyData
  | .n => .none
  | .b x => .bool x
  | .i x => .int x
  | .s x => .str x
  | .t xs => .tuple (toPL xs)
  | .l xs => .list (toPL xs)
  | .z xs => .list (toPL xs)
  | .m _ _ => badP 60
  | .o _ _ _ => badP 60
  | .x _ _ _ => badP 60
  | .f _ => badP 60
  | .k _ _ => badP 60
def toPL : List Dt → List PyData
  | [] => []
  | x :: xs => toP x :: toPL xs
end
mutual
/-- no dict, no object within -/
def nob : Dt → Bool
  | .t xs => nobL xs
  | .l xs => nobL xs
  | .z xs => nobL xs
  | .m _ _ => false
  | .o _ _ _ => false
  | .x _ _ _ => false
  | .f _ => false
  | .k _ _ => false
  | _ => true
def nobL : List Dt → Bool
  | [] => true
  | x :: xs => nob x && nobL xs
end
mutual
theorem nob_can : ∀ x : Dt, (toP x).canLay0 = true → nob x = true
  | .n, _ => rfl
  | .b _, _ => rfl
  | .i _, _ => rfl
  | .s _, _ => rfl
  | .t xs, h => nobL_can xs h
  | .l xs, h => nobL_can xs h
  | .z xs, h => nobL_can xs h
  | .m _ _, h => by simp only [toP, badP_can] at h; cases h
  | .o _ _ _, h => by simp only [toP, badP_can] at h; cases h
  | .x _ _ _, h => by simp only [toP, badP_can] at h; cases h
  | .f _, h => by simp only [toP, badP_can] at h; cases h
  | .k _ _, h => by simp only [toP, badP_can] at h; cases h
theorem nobL_can : ∀ xs : List Dt, PyData.canLayAll0 (toPL xs) = true → nobL xs = true
  | [], _ => rfl
  | x :: xs, h => by
    simp only [toPL, PyData.canLayAll0, Bool.and_eq_true] at h
    simp only [nobL, nob_can x h.1, nobL_can xs h.2, Bool.and_self]
end
mutual
theorem nob_dep : ∀ x : Dt, (toP x).depth ≤ 59 → nob x = true
  | .n, _ => rfl
  | .b _, _ => rfl
  | .i _, _ => rfl
  | .s _, _ => rfl
  | .t xs, h => nobL_dep xs (by simp only [toP, PyData.depth] at h; omega)
  | .l xs, h => nobL_dep xs (by simp only [toP, PyData.depth] at h; omega)
  | .z xs, h => nobL_dep xs (by simp only [toP, PyData.depth] at h; omega)
  | .m _ _, h => by have := badP_dep 60; simp only [toP] at h; omega
  | .o _ _ _, h => by have := badP_dep 60; simp only [toP] at h; omega
  | .x _ _ _, h => by have := badP_dep 60; simp only [toP] at h; omega
  | .f _, h => by have := badP_dep 60; simp only [toP] at h; omega
  | .k _ _, h => by have := badP_dep 60; simp only [toP] at h; omega
theorem nobL_dep : ∀ xs : List Dt, PyData.depthAll (toPL xs) ≤ 59 → nobL xs = true
  | [], _ => rfl
  | x :: xs, h => by
    simp only [toPL, PyData.depthAll] at h
    simp only [nobL, nob_dep x (by omega), nobL_dep xs (by omega), Bool.and_self]
end
theorem toPL_map : ∀ xs : List Dt, toPL xs = xs.map toP
  | [] => rfl
  | x :: xs => by simp [toPL, toPL_map xs]
mutual
theorem Co.dp : ∀ {v : V} {x : Dt}, Co K M H v x → nob x = true → Dp K H v (toP x)
  | _, _, .n, _ => .non
  | _, _, .b x, _ => .bl x
  | _, _, .i x, _ => .int x
  | _, _, .s x, _ => .str x
  | _, _, .t h q, n => .tup h (CoL.dp q n)
  | _, _, .l h hn q, n => .lst (.inl (.inl h)) (CoL.dp q n)
  | _, _, .z h q, n => .lst h.sq (CoL.dp q n)
  | _, _, .m h _ q, n => by simp [nob] at n
  | _, _, .o h _ c q, n => by simp [nob] at n
  | _, _, .x0 h c, n => by simp [nob] at n
  | _, _, .f h, n => by simp [nob] at n
  | _, _, .k _ _ _ _ _ _, n => by simp [nob] at n
  | _, _, .x1 h c d q, n => by simp [nob] at n
theorem CoL.dp : ∀ {vs : List V} {xs : List Dt}, CoL K M H vs xs → nobL xs = true → DpAll K H vs (toPL xs)
  | _, _, .nil, _ => .nil
  | _, _, .cons h q, n => by
    simp only [nobL, Bool.and_eq_true] at n
    exact .cons (Co.dp h n.1) (CoL.dp q n.2)
end
def shp (x : Dt) : Bool := SeqAt.shaped (toP x)
theorem nob_shp {x : Dt} (h : shp x = true) : nob x = true := nob_can x (SeqAt.canLay_of_shaped h)
def eqD (x y : Dt) : Bool := PyData.eqv (toP x) (toP y)
def fEq : List Dt → Option Vl
  | [.s a, .s b] => some (.b (decide (a = b)), .c)
  | [x, y] => if shp x && shp y then some (.b (eqD x y), .c) else none
  | _ => none
def fNe : List Dt → Option Vl
  | [.s a, .s b] => some (.b (!decide (a = b)), .c)
  | [x, y] => if shp x && shp y then some (.b (!eqD x y), .c) else none
  | _ => none
def rEqA (K : PySem.W.Frag) : R2 := fun x y H Q => rEq x y H Q ∨ rEqD K x y H Q
def rNeA (K : PySem.W.Frag) : R2 := fun x y H Q => rNe x y H Q ∨ rNeD K x y H Q
theorem or_eq (hu : X.A.units + 64 < cLine) : OpR X (compareOp .Eq) (rEqA X.K) := op_eq.or (op_eqD hu)
theorem or_ne (hu : X.A.units + 64 < cLine) : OpR X (compareOp .NotEq) (rNeA X.K) := op_ne.or (op_neD hu)
theorem pr_eq : Pr K (ap2 (rEqA K)) fEq := fun M H vs xs x m Q ht c hf k => by
  unfold fEq at hf
  split at hf
  · cases hf
    obtain ⟨v, w, rfl, c1, c2⟩ := c.two
    cases c1
    cases c2
    refine .inl ⟨rfl, ?_⟩
    simp only [V.str.injEq]
    exact k _ _ _ (mk_c ht (.b _))
  · split at hf
    · rename_i h
      cases hf
      rw [Bool.and_eq_true] at h
      obtain ⟨v, w, rfl, c1, c2⟩ := c.two
      exact .inr ⟨_, _, c1.dp (nob_shp h.1), c2.dp (nob_shp h.2), h.1, h.2, k _ _ _ (mk_c ht (.b _))⟩
    · cases hf
  · cases hf
theorem pr_ne : Pr K (ap2 (rNeA K)) fNe := fun M H vs xs x m Q ht c hf k => by
  unfold fNe at hf
  split at hf
  · cases hf
    obtain ⟨v, w, rfl, c1, c2⟩ := c.two
    cases c1
    cases c2
    refine .inl ⟨rfl, ?_⟩
    simp only [V.str.injEq]
    exact k _ _ _ (mk_c ht (.b _))
  · split at hf
    · rename_i h
      cases hf
      rw [Bool.and_eq_true] at h
      obtain ⟨v, w, rfl, c1, c2⟩ := c.two
      exact .inr ⟨_, _, c1.dp (nob_shp h.1), c2.dp (nob_shp h.2), h.1, h.2, k _ _ _ (mk_c ht (.b _))⟩
    · cases hf
  · cases hf
def isn : Dt → Bool
  | .n => true
  | _ => false
def fIsN : List Dt → Option Vl
  | [x, .n] => some (.b (isn x), .c)
  | _ => none
def fNotN : List Dt → Option Vl
  | [x, .n] => some (.b (!isn x), .c)
  | _ => none
theorem Co.isn {v : V} {x : Dt} (c : Co K M H v x) : decide (v = .non) = Y.isn x := by cases c <;> simp [Y.isn]
theorem pr_isN : Pr K (ap2 fun x y H Q => y = .non ∧ Q (.bl (decide (x = .non))) H) fIsN := fun M H vs xs x m Q ht c hf k => by
  unfold fIsN at hf
  split at hf
  · cases hf
    obtain ⟨v, w, rfl, c1, c2⟩ := c.two
    exact ⟨c2.non, by rw [c1.isn]; exact k _ _ _ (mk_c ht (.b _))⟩
  · cases hf
theorem pr_notN : Pr K (ap2 fun x y H Q => y = .non ∧ Q (.bl (!decide (x = .non))) H) fNotN := fun M H vs xs x m Q ht c hf k => by
  unfold fNotN at hf
  split at hf
  · cases hf
    obtain ⟨v, w, rfl, c1, c2⟩ := c.two
    exact ⟨c2.non, by rw [c1.isn]; exact k _ _ _ (mk_c ht (.b _))⟩
  · cases hf
def fIsB : List Dt → Option Vl
  | [.b a, .b c] => some (.b (decide (a = c)), .c)
  | _ => none
def fNotB : List Dt → Option Vl
  | [.b a, .b c] => some (.b (!decide (a = c)), .c)
  | _ => none
theorem pr_isB : Pr K (ap2 rIsB) fIsB := fun M H vs xs x m Q ht c hf k => by
  unfold fIsB at hf
  split at hf
  · cases hf
    obtain ⟨v, w, rfl, c1, c2⟩ := c.two
    exact ⟨_, _, c1.bl, c2.bl, k _ _ _ (mk_c ht (.b _))⟩
  · cases hf
theorem pr_notB : Pr K (ap2 rNotB) fNotB := fun M H vs xs x m Q ht c hf k => by
  unfold fNotB at hf
  split at hf
  · cases hf
    obtain ⟨v, w, rfl, c1, c2⟩ := c.two
    exact ⟨_, _, c1.bl, c2.bl, k _ _ _ (mk_c ht (.b _))⟩
  · cases hf
def fIs : List Dt → Option Vl := fun xs => (fIsN xs).or (fIsB xs)
def fNot : List Dt → Option Vl := fun xs => (fNotN xs).or (fNotB xs)
theorem or_is : OpR X (compareOp .Is) (fun x y H Q => (y = .non ∧ Q (.bl (decide (x = .non))) H) ∨ rIsB x y H Q) := op_isN.or op_isBl
theorem or_not : OpR X (compareOp .IsNot) (fun x y H Q => (y = .non ∧ Q (.bl (!decide (x = .non))) H) ∨ rNotB x y H Q) := op_notN.or op_notBl
theorem pr_is : Pr K (ap2 fun x y H Q => (y = .non ∧ Q (.bl (decide (x = .non))) H) ∨ rIsB x y H Q) fIs := pr_isN.or2 pr_isB
theorem pr_not : Pr K (ap2 fun x y H Q => (y = .non ∧ Q (.bl (!decide (x = .non))) H) ∨ rNotB x y H Q) fNot := pr_notN.or2 pr_notB
def fIx : List Dt → Option Vl
  | [.l xs, .i n] => (atI xs n).map (·, .c)
  | [.t xs, .i n] => (atI xs n).map (·, .c)
  | [.z xs, .i n] => (atI xs n).map (·, .c)
  | [.s z, .i n] => if z.length ≤ LIM then (atI z.cps.toList n).map (fun c => (.s ⟨#[c]⟩, .c)) else none
  | _ => none
theorem CoL.at {vs : List V} {xs : List Dt} {n : Int} {x : Dt} (c : CoL K M H vs xs) (h : atI xs n = some x) : ∃ v, atI vs n = some v ∧ Co K M H v x := by
  unfold atI at h ⊢
  rw [c.len]
  cases e : ixN xs.length n with
  | none => rw [e] at h; cases h
  | some j =>
    rw [e] at h
    obtain ⟨v, h1, h2⟩ := c.get (by simpa using h)
    exact ⟨v, by simpa using h1, h2⟩
theorem pr_ix : Pr K (ap2 (rIx K)) fIx := fun M H vs xs x m Q ht c hf k => by
  unfold fIx at hf
  split at hf
  · simp only [Option.map_eq_some_iff, Prod.mk.injEq] at hf
    obtain ⟨y, hy, rfl, rfl⟩ := hf
    obtain ⟨v, w, rfl, c1, c2⟩ := c.two
    obtain ⟨a, us, rfl, h1, q1⟩ := c1.lst
    obtain ⟨u, hu, cu⟩ := q1.at hy
    exact .inl ⟨a, us, _, u, rfl, c2.int, .inl (.inl h1), hu, k _ _ _ (mk_c ht cu)⟩
  · simp only [Option.map_eq_some_iff, Prod.mk.injEq] at hf
    obtain ⟨y, hy, rfl, rfl⟩ := hf
    obtain ⟨v, w, rfl, c1, c2⟩ := c.two
    obtain ⟨a, us, rfl, h1, q1⟩ := c1.tup
    obtain ⟨u, hu, cu⟩ := q1.at hy
    exact .inr (.inl ⟨a, us, _, u, rfl, c2.int, h1, hu, k _ _ _ (mk_c ht cu)⟩)
  · simp only [Option.map_eq_some_iff, Prod.mk.injEq] at hf
    obtain ⟨y, hy, rfl, rfl⟩ := hf
    obtain ⟨v, w, rfl, c1, c2⟩ := c.two
    obtain ⟨a, us, rfl, h1, q1⟩ := c1.frz
    obtain ⟨u, hu, cu⟩ := q1.at hy
    exact .inl ⟨a, us, _, u, rfl, c2.int, h1.sq, hu, k _ _ _ (mk_c ht cu)⟩
  · split at hf
    · rename_i hz
      simp only [Option.map_eq_some_iff, Prod.mk.injEq] at hf
      obtain ⟨y, hy, rfl, rfl⟩ := hf
      obtain ⟨v, w, rfl, c1, c2⟩ := c.two
      exact .inr (.inr ⟨_, _, _, c1.str, c2.int, lim_size hz, hy, k _ _ _ (mk_c ht (.s _))⟩)
    · cases hf
  · cases hf
end
end Y
namespace Y
open PySem L2 PyProof.Rows
section
variable {X : Cx} {K : PySem.W.Frag} {M M' : Addr → Prop} {H H' : Hp}
theorem CallR.any {f : Value} {r r' : List V → Hp → VK → Prop} (h : CallR X f r) (i : ∀ vs H Q, r' vs H Q → r vs H Q) : CallR X f r' := fun pins s σ H xs us Q I rv q => h pins s σ H xs us Q I rv (i _ _ _ q)
def fLen : List Dt → Option Vl
  | [.l xs] => some (.i xs.length, .c)
  | [.t xs] => some (.i xs.length, .c)
  | [.z xs] => some (.i xs.length, .c)
  | [.s x] => if x.length ≤ LIM then some (.i x.length, .c) else none
  | _ => none
def rLen (K : PySem.W.Frag) : List V → Hp → VK → Prop := fun xs H Q => (∃ p ys, xs = [.ref p] ∧ (SqL K H p ys ∨ SqT K H p ys) ∧ Q (.int ys.length) H) ∨ (∃ z, xs = [.str z] ∧ z.length ≤ sizeLine ∧ Q (.int z.length) H)
theorem cr_len : CallR X (.builtin "len") (rLen X.K) := call_len_seq.or call_len_str
theorem pr_len : Pr K (rLen K) fLen := fun M H vs xs x m Q ht c hf k => by
  unfold fLen at hf
  split at hf
  · cases hf
    obtain ⟨v, rfl, c1⟩ := c.one
    obtain ⟨a, us, rfl, h1, q1⟩ := c1.lst
    exact .inl ⟨a, us, rfl, .inl (.inl (.inl h1)), by rw [q1.len]; exact k _ _ _ (mk_c ht (.i _))⟩
  · cases hf
    obtain ⟨v, rfl, c1⟩ := c.one
    obtain ⟨a, us, rfl, h1, q1⟩ := c1.tup
    exact .inl ⟨a, us, rfl, .inr h1, by rw [q1.len]; exact k _ _ _ (mk_c ht (.i _))⟩
  · cases hf
    obtain ⟨v, rfl, c1⟩ := c.one
    obtain ⟨a, us, rfl, h1, q1⟩ := c1.frz
    exact .inl ⟨a, us, rfl, .inl (h1.sq), by rw [q1.len]; exact k _ _ _ (mk_c ht (.i _))⟩
  · split at hf
    · rename_i hz
      cases hf
      obtain ⟨v, rfl, c1⟩ := c.one
      exact .inr ⟨_, by rw [c1.str], lim_size hz, k _ _ _ (mk_c ht (.i _))⟩
    · cases hf
  · cases hf
def fList : List Dt → Option Vl
  | [.l xs] => some (.l xs, .t)
  | [.t xs] => some (.l xs, .t)
  | [.z xs] => some (.l xs, .t)
  | _ => none
theorem pr_list : Pr K (fun xs H Q => ∃ p ys, xs = [.ref p] ∧ (SqL K H p ys ∨ SqT K H p ys) ∧ ∀ l, H l = none → Q (.ref l) (upd H l (.lst ys))) fList := fun M H vs xs x m Q ht c hf k => by
  unfold fList at hf
  split at hf
  · cases hf
    obtain ⟨v, rfl, c1⟩ := c.one
    obtain ⟨a, us, rfl, h1, q1⟩ := c1.lst
    exact ⟨a, us, rfl, .inl (.inl (.inl h1)), fun l hl => k _ _ _ (mk_lst ht hl q1)⟩
  · cases hf
    obtain ⟨v, rfl, c1⟩ := c.one
    obtain ⟨a, us, rfl, h1, q1⟩ := c1.tup
    exact ⟨a, us, rfl, .inr h1, fun l hl => k _ _ _ (mk_lst ht hl q1)⟩
  · cases hf
    obtain ⟨v, rfl, c1⟩ := c.one
    obtain ⟨a, us, rfl, h1, q1⟩ := c1.frz
    exact ⟨a, us, rfl, .inl (h1.sq), fun l hl => k _ _ _ (mk_lst ht hl q1)⟩
  · cases hf
def fTuple : List Dt → Option Vl
  | [.l xs] => some (.t xs, .c)
  | [.t xs] => some (.t xs, .c)
  | [.z xs] => some (.t xs, .c)
  | _ => none
theorem pr_tuple : Pr K (fun xs H Q => ∃ p ys, xs = [.ref p] ∧ ((SqL K H p ys ∧ ∀ l, H l = none → Q (.ref l) (upd H l (.tup ys))) ∨ (SqT K H p ys ∧ Q (.ref p) H))) fTuple := fun M H vs xs x m Q ht c hf k => by
  unfold fTuple at hf
  split at hf
  · cases hf
    obtain ⟨v, rfl, c1⟩ := c.one
    obtain ⟨a, us, rfl, h1, q1⟩ := c1.lst
    exact ⟨a, us, rfl, .inl ⟨.inl (.inl h1), fun l hl => k _ _ _ (mk_tup ht hl q1)⟩⟩
  · cases hf
    obtain ⟨v, rfl, c1⟩ := c.one
    obtain ⟨a, us, rfl, h1, q1⟩ := c1.tup
    exact ⟨a, us, rfl, .inr ⟨h1, k _ _ _ (mk_c ht c1)⟩⟩
  · cases hf
    obtain ⟨v, rfl, c1⟩ := c.one
    obtain ⟨a, us, rfl, h1, q1⟩ := c1.frz
    exact ⟨a, us, rfl, .inl ⟨h1.sq, fun l hl => k _ _ _ (mk_tup ht hl q1)⟩⟩
  · cases hf
def fAbs : List Dt → Option Vl
  | [.i a] => some (.i (if a < 0 then -a else a), .c)
  | _ => none
theorem pr_abs : Pr K (fun xs H Q => ∃ i, xs = [.int i] ∧ Q (.int (if i < 0 then -i else i)) H) fAbs := fun M H vs xs x m Q ht c hf k => by
  unfold fAbs at hf
  split at hf
  · cases hf
    obtain ⟨v, rfl, c1⟩ := c.one
    exact ⟨_, by rw [c1.int], k _ _ _ (mk_c ht (.i _))⟩
  · cases hf
def fMax2 : List Dt → Option Vl
  | [.i a, .i b] => some (.i (if b > a then b else a), .c)
  | _ => none
def fMin2 : List Dt → Option Vl
  | [.i a, .i b] => some (.i (if b < a then b else a), .c)
  | _ => none
theorem pr_max2 : Pr K (fun xs H Q => ∃ i j, xs = [.int i, .int j] ∧ Q (.int (if j > i then j else i)) H) fMax2 := fun M H vs xs x m Q ht c hf k => by
  unfold fMax2 at hf
  split at hf
  · cases hf
    obtain ⟨v, w, rfl, c1, c2⟩ := c.two
    exact ⟨_, _, by rw [c1.int, c2.int], k _ _ _ (mk_c ht (.i _))⟩
  · cases hf
theorem pr_min2 : Pr K (fun xs H Q => ∃ i j, xs = [.int i, .int j] ∧ Q (.int (if j < i then j else i)) H) fMin2 := fun M H vs xs x m Q ht c hf k => by
  unfold fMin2 at hf
  split at hf
  · cases hf
    obtain ⟨v, w, rfl, c1, c2⟩ := c.two
    exact ⟨_, _, by rw [c1.int, c2.int], k _ _ _ (mk_c ht (.i _))⟩
  · cases hf
def fInt : List Dt → Option Vl
  | [.i a] => some (.i a, .c)
  | [.b a] => some (.i (if a then 1 else 0), .c)
  | _ => none
theorem pr_int : Pr K (fun xs H Q => (∃ i, xs = [.int i] ∧ Q (.int i) H) ∨ ∃ k, xs = [.bl k] ∧ Q (.int (if k then 1 else 0)) H) fInt := fun M H vs xs x m Q ht c hf k => by
  unfold fInt at hf
  split at hf
  · cases hf
    obtain ⟨v, rfl, c1⟩ := c.one
    exact .inl ⟨_, by rw [c1.int], k _ _ _ (mk_c ht (.i _))⟩
  · cases hf
    obtain ⟨v, rfl, c1⟩ := c.one
    exact .inr ⟨_, by rw [c1.bl], k _ _ _ (mk_c ht (.i _))⟩
  · cases hf
def intsL : List Dt → Option (List Int)
  | [] => some []
  | .i a :: xs => (intsL xs).map (a :: ·)
  | _ => none
def blsL : List Dt → Option (List Bool)
  | [] => some []
  | .b a :: xs => (blsL xs).map (a :: ·)
  | _ => none
theorem CoL.blsL : ∀ {vs : List V} {xs : List Dt} {ns : List Bool}, CoL K M H vs xs → blsL xs = some ns → vs = ns.map V.bl
  | _, _, _, .nil, h => by simp [Y.blsL] at h; subst h; rfl
  | _, x :: xs, _, .cons h q, e => by
    cases x with
    | b a =>
      simp only [Y.blsL, Option.map_eq_some_iff] at e
      obtain ⟨ns, e, rfl⟩ := e
      rw [h.bl, CoL.blsL q e]; rfl
    | _ => simp [Y.blsL] at e
theorem ints_map (ns : List Int) : intsL (ns.map .i) = some ns := by
  induction ns with
  | nil => rfl
  | cons a ns ih => simp [intsL, ih]
theorem bls_map (ns : List Bool) : blsL (ns.map .b) = some ns := by
  induction ns with
  | nil => rfl
  | cons a ns ih => simp [blsL, ih]
def fSum : List Dt → Option Vl
  | [.l xs] => (intsL xs).map fun ns => (.i ns.sum, .c)
  | _ => none
def lmax : Int → List Int → Int
  | a, [] => a
  | a, b :: xs => lmax (if b > a then b else a) xs
def lmin : Int → List Int → Int
  | a, [] => a
  | a, b :: xs => lmin (if b < a then b else a) xs
def fMax1 : List Dt → Option Vl
  | [.l xs] => match intsL xs with
    | some (a :: ns) => some (.i (lmax a ns), .c)
    | _ => none
  | [.t xs] => match intsL xs with
    | some (a :: ns) => some (.i (lmax a ns), .c)
    | _ => none
  | _ => none
def fMin1 : List Dt → Option Vl
  | [.l xs] => match intsL xs with
    | some (a :: ns) => some (.i (lmin a ns), .c)
    | _ => none
  | [.t xs] => match intsL xs with
    | some (a :: ns) => some (.i (lmin a ns), .c)
    | _ => none
  | _ => none
theorem alike_ints (ns : List Int) : PySem.W.AlikeAll (ns.map PyData.int) := by
  refine ⟨fun x hx y hy => ?_, fun x hx => ?_⟩
  · obtain ⟨a, _, rfl⟩ := List.mem_map.mp hx
    obtain ⟨b, _, rfl⟩ := List.mem_map.mp hy
    rfl
  · obtain ⟨a, _, rfl⟩ := List.mem_map.mp hx
    exact fun h => nomatch h
def fAll : List Dt → Option Vl
  | [.l xs] => (blsL xs).map fun bs => (.b (bs.all id), .c)
  | _ => none
def fAny : List Dt → Option Vl
  | [.l xs] => (blsL xs).map fun bs => (.b (bs.any id), .c)
  | _ => none
theorem pr_all : Pr K (rAll K) fAll := fun M H vs xs x m Q ht c hf k => by
  unfold fAll at hf
  split at hf
  · simp only [Option.map_eq_some_iff, Prod.mk.injEq] at hf
    obtain ⟨ns, hn, rfl, rfl⟩ := hf
    obtain ⟨v, rfl, c1⟩ := c.one
    obtain ⟨a, us, rfl, h1, q1⟩ := c1.lst
    have e := q1.blsL hn
    subst e
    exact ⟨a, ns, rfl, .inl (.inl h1), k _ _ _ (mk_c ht (.b _))⟩
  · cases hf
def cutD (xs : List Dt) (lo hi : Option Int) : List Dt := (xs.drop (HT.sIx xs.length 0 lo)).take (HT.sIx xs.length xs.length hi - HT.sIx xs.length 0 lo)
theorem CoL.take {vs : List V} {xs : List Dt} (c : CoL K M H vs xs) : ∀ n, CoL K M H (vs.take n) (xs.take n) := by
  induction c using CoL.rec (motive_1 := fun _ _ _ => True) with
  | nil => intro n; simp; exact .nil
  | cons h q _ ih =>
    intro n
    cases n with
    | zero => exact .nil
    | succ n => exact .cons h (ih n)
  | _ => trivial
theorem CoL.drop {vs : List V} {xs : List Dt} (c : CoL K M H vs xs) : ∀ n, CoL K M H (vs.drop n) (xs.drop n) := by
  induction c using CoL.rec (motive_1 := fun _ _ _ => True) with
  | nil => intro n; simp; exact .nil
  | cons h q _ ih =>
    intro n
    cases n with
    | zero => exact .cons h q
    | succ n => exact ih n
  | _ => trivial
theorem CoL.cut {vs : List V} {xs : List Dt} (c : CoL K M H vs xs) (lo hi : Option Int) : CoL K M H (cutV vs lo hi) (cutD xs lo hi) := by
  unfold cutV cutD
  rw [c.len]
  exact (c.drop _).take _
/-- x[lo:hi] -/
def fSl (lo hi : Option Int) : Dt → Option Vl
  | .l xs => some (.l (cutD xs lo hi), .t)
  | .z xs => some (.l (cutD xs lo hi), .t)
  | .t xs => some (.t (cutD xs lo hi), .c)
  | _ => none
def rSlAll (K : PySem.W.Frag) : V → Option Int → Option Int → Hp → VK → Prop := fun x lo hi H Q => rSlL K x lo hi H Q ∨ rSlA K x lo hi H Q
theorem sl_all : SlR X (rSlAll X.K) := sl_list.or sl_tupA
theorem pr_sl {lo hi : Option Int} {v : V} {x y : Dt} {m : Md} {Q : VK} (ht : Hotty M H) (c : Co K M H v x) (hf : fSl lo hi x = some (y, m)) (k : ∀ v H' F, Mk K H M v y m H' F → Q v H') : rSlAll K v lo hi H Q := by
  unfold fSl at hf
  split at hf
  · cases hf
    obtain ⟨a, us, rfl, h1, q1⟩ := c.lst
    exact .inl ⟨a, us, rfl, .inl (.inl h1), fun p hp => k _ _ _ (mk_lst ht hp (q1.cut lo hi))⟩
  · cases hf
    obtain ⟨a, us, rfl, h1, q1⟩ := c.frz
    exact .inl ⟨a, us, rfl, h1.sq, fun p hp => k _ _ _ (mk_lst ht hp (q1.cut lo hi))⟩
  · cases hf
    obtain ⟨a, us, rfl, h1, q1⟩ := c.tup
    have cu := q1.cut lo hi
    refine .inr ⟨a, us, rfl, h1, fun hw => ?_, fun _ p hp => k _ _ _ (mk_tup ht hp cu)⟩
    have e : cutV us lo hi = us := by
      unfold cutV
      rw [hw.1, hw.2]
      simp
    rw [e] at cu
    exact k _ _ _ (mk_c ht (.t h1 cu))
  · cases hf
def evP : Option (Ev → Ou Vl) → Ev → Ou (Option Int)
  | none, r => .ok none r
  | some f, r => match f r with
    | .ok (.i n, _) r' => .ok (some n) r'
    | .ok _ _ => .no
    | .ex c fs r' => .ex c fs r'
    | .no => .no
inductive JP (X : Cx) (cl : Str → Addr) (W : WX) : Option Expr → Option (Ev → Ou Vl) → Prop
  | none : JP X cl W none none
  | some {e : Expr} {f : Ev → Ou Vl} : JE X cl W e f → JP X cl W (some e) (some f)
def tPt (K : PySem.W.Frag) (cl : Str → Addr) (W : WX) : Option (Ev → Ou Vl) → TO
  | none => tNoPart
  | some f => tPart (tI K cl W f)
variable {cl : Str → Addr} {W : WX} {σ : L2.St}
theorem JP.po {o : Option Expr} {p : Option (Ev → Ou Vl)} (h : JP X cl W o p) (tk : Takes X W) : PO X o (tPt X.K cl W p) := by
  cases h with
  | none => exact po_none
  | some h => exact po_some (h tk)
theorem tPt_ok {p : Option (Ev → Ou Vl)} {r : Ev} {G : Nat → List Addr} {Q : Option Int → Hp → Prop} (e : ER K r σ G M H)
    (h : match evP p r with
      | .ok o r' => ∀ H' M' G', ER K r' σ G' M' H' → Evo H M G H' M' G' [] → Q o H'
      | .ex c fs r' => ∀ d H' M' G', XX K r' σ H M G fs d H' M' G' → W (.ref (cl c)) d σ H'
      | .no => False) : tPt K cl W p σ H Q := by
  cases p with
  | none => exact h H M G e .refl
  | some f =>
    show tI K cl W f σ H _
    refine ⟨r, M, G, e, ?_⟩
    simp only [evP] at h
    cases hf : f r with
    | no => rw [hf] at h; exact h
    | ex c fs r' => rw [hf] at h; exact h
    | ok xm r' =>
      obtain ⟨x, m⟩ := xm
      rw [hf] at h
      intro v H' M' G' F p
      cases x with
      | i n =>
        obtain ⟨M2, e2, v2, c2⟩ := p.giveUp e.hot
        exact ⟨n, c2.int, h H' M2 G' e2 v2⟩
      | _ => exact h.elim
def mSl (A : Am) (lo hi : Option (Ev → Ou Vl)) : Ev → Ou Vl := fun r => match evA [A] r with
  | .ok ys r1 => match evP lo r1 with
    | .ok l r2 => match evP hi r2 with
      | .ok u r3 => match look r3 ys with
        | some [x] => match fSl l u x with
          | some (y, m) => .ok (y, m) (if y.flat then r3 else frz ys r3)
          | none => .no
        | _ => .no
      | .ex c fs r3 => .ex c fs r3
      | .no => .no
    | .ex c fs r2 => .ex c fs r2
    | .no => .no
  | .ex c fs r1 => .ex c fs r1
  | .no => .no
theorem mSl_ok {A : Am} {lo hi : Option (Ev → Ou Vl)} {Q : VK} (h : tI K cl W (mSl A lo hi) σ H Q) : tSl (rSlAll K) (tO K cl W A) (tPt K cl W lo) (tPt K cl W hi) σ H Q := by
  obtain ⟨r, M, G, e, h⟩ := h
  show tOs K cl W [A] σ H fun vs H1 => ap1 (fun x H1 _ => tPt K cl W lo σ H1 fun l H2 => tPt K cl W hi σ H2 fun u H3 => rSlAll K x l u H3 Q) vs H1 Q
  refine tOs_ok [A] e ?_
  simp only [mSl] at h
  cases ha : evA [A] r with
  | no => rw [ha] at h; exact h
  | ex c fs r1 => rw [ha] at h; exact h
  | ok ys r1 =>
  rw [ha] at h
  intro vs H1 M1 G1 e1 v1 a1
  have hlen : vs.length = 1 := by rw [a1.len, evA_len _ ha]; rfl
  match vs, hlen, a1 with
  | [v], _, a1 =>
  show tPt K cl W lo σ H1 _
  refine tPt_ok e1 ?_
  simp only at h
  cases hlo : evP lo r1 with
  | no => rw [hlo] at h; exact h
  | ex c fs r2 => rw [hlo] at h; exact fun d H' M' G' p => h d H' M' G' ⟨p.er, v1.trans e.hot p.ev, p.xd⟩
  | ok l r2 =>
  rw [hlo] at h
  intro H2 M2 G2 e2 v2
  have v12 := v1.trans e.hot v2
  refine tPt_ok e2 ?_
  simp only at h
  cases hhi : evP hi r2 with
  | no => rw [hhi] at h; exact h
  | ex c fs r3 => rw [hhi] at h; exact fun d H' M' G' p => h d H' M' G' ⟨p.er, v12.trans e.hot p.ev, p.xd⟩
  | ok u r3 =>
  rw [hhi] at h
  intro H3 M3 G3 e3 v3
  have v13 := v12.trans e.hot v3
  have a3 : AgL K M3 H3 σ [v] ys := (a1.fm (e1.fm v2)).fm (e2.fm v3)
  simp only at h
  cases hl : look r3 ys with
  | none => rw [hl] at h; exact h.elim
  | some xs =>
  rw [hl] at h
  have cc : CoL K (fun b => M3 b ∧ b ∉ owns G3 ys) H3 [v] xs := look_cold e3 (fun b z => z.1) (fun b hb z => z.2 hb) a3 hl
  have ht3 : Hotty (fun b => M3 b ∧ b ∉ owns G3 ys) H3 := fun b z => e3.hot b z.1
  cases cc with
  | @cons _ _ x _ c1 c2 =>
  cases c2
  simp only at h
  cases hf : fSl l u x with
  | none => rw [hf] at h; exact h.elim
  | some ym =>
  obtain ⟨y, m⟩ := ym
  rw [hf] at h
  simp only at h
  by_cases hx : y.flat = true
  · rw [if_pos hx] at h
    exact pr_sl ht3 c1 hf fun v H4 F p => h v H4 _ _ F (p.px e3 v13 e.hot hx)
  · rw [if_neg hx] at h
    obtain ⟨G4, e4, s4⟩ := e3.frz ys
    have v4 : Evo H3 M3 G3 H3 (fun b => M3 b ∧ b ∉ owns G3 ys) G4 [] := ⟨fun _ _ h _ => h, fun _ h => h, fun b z => .inl z.1, fun b h hb => ⟨h, fun z => let ⟨i, q⟩ := mem_owns z; hb i q⟩, fun i b hb => .inl ⟨i, s4 i b hb⟩, fun _ h => nomatch h⟩
    exact pr_sl ht3 c1 hf fun v H4 F p => h v H4 _ _ F (p.px2 e4 (v13.trans e.hot v4) e.hot)
theorem je_sl {e : Expr} {lo hi : Option Expr} {A : Am} {pl ph : Option (Ev → Ou Vl)} {p2 pos : Pos} (he : JO X cl W e A) (hl : JP X cl W lo pl) (hh : JP X cl W hi ph) : JE X cl W (.Subscript e (.Slice lo hi none p2) pos) (mSl A pl ph) := fun tk =>
  (pe_slice sl_all (he.pe tk) (hl.po tk) (hh.po tk)).yimp fun _ _ _ q => mSl_ok q
end
end Y
namespace Y
open PySem L2 PyProof.Rows
section
variable {K : PySem.W.Frag} {cl : Str → Addr} {W : WX} {io : Bool} {M M' M0 : Addr → Prop} {H H' H0 : Hp} {G G' G0 : Nat → List Addr} {r r' : Ev} {σ σ0 : L2.St} {D : Ends}
/-- one slot's lists are changed -/
theorem ER.wr {i : Nat} {v : V} {x' : Dt} {m' : Md} {F' : List Addr} (e : ER K r σ G M H) (hv : σ[i]? = some (some v)) (same : ∀ b o, H b = some o → b ∉ G i → H' b = some o) (grow : ∀ b, M' b → M b ∨ H b = none)
    (keep : ∀ j b, j ≠ i → b ∈ G j → M' b) (hot : Hotty M' H') (rp : Rp K M' H' m' v x' F') (nd : F'.Nodup) (k : ∀ b ∈ F', M' b ∧ ∀ j, j ≠ i → b ∉ G j) :
    ER K (r.set i (some (x', m'))) σ (fun j => if j = i then F' else G j) M' H' := by
  have e2 : ER K (r.set i none) σ (fun j => if j = i then [] else G j) M' H' := (e.drop i).evoF (fun b o h z => same b o h fun q => by
    rcases z with z | ⟨j, z⟩
    · exact z (e.sub i b q)
    · by_cases y : j = i
      · simp [y] at z
      · simp only [if_neg y] at z
        exact e.dj j i y b z q) grow (fun j b hb => by
    by_cases y : j = i
    · simp [y] at hb
    · simp only [if_neg y] at hb
      exact keep j b y hb) hot
  have e3 := put_back hv e2 rp nd fun b hb => ⟨(k b hb).1, fun j hj => by
    by_cases y : j = i
    · simp [y] at hj
    · simp only [if_neg y] at hj
      exact (k b hb).2 j y hj⟩
  rw [List.set_set] at e3
  have g : (fun j => if j = i then F' else if j = i then [] else G j) = fun j => if j = i then F' else G j := by
    funext j; by_cases y : j = i <;> simp [y]
  rw [g] at e3
  exact e3
theorem SqT.up {a b : Addr} {us vs : List V} {u : HO} (h : SqT K H b vs) (ha : H a = some (.lst us)) : SqT K (upd H a u) b vs := by
  rcases h with h | h
  · refine .inl ?_
    have nb : b ≠ a := fun q => by
      rw [q] at h
      rcases h with h | ⟨o, h⟩ <;> (rw [ha] at h; cases h)
    rcases h with h | ⟨o, h⟩
    · exact .inl (by rw [upd_ne nb]; exact h)
    · exact .inr ⟨o, by rw [upd_ne nb]; exact h⟩
  · exact .inr h
theorem rd_up {a b : Addr} {us vs : List V} {u : HO} (h : Rd H b (.tup vs)) (ha : H a = some (.lst us)) : Rd (upd H a u) b (.tup vs) := by
  have nb : b ≠ a := fun q => by
    rw [q] at h
    rcases h with h | ⟨o, h⟩ <;> (rw [ha] at h; cases h)
  rcases h with h | ⟨o, h⟩
  · exact .inl (by rw [upd_ne nb]; exact h)
  · exact .inr ⟨o, by rw [upd_ne nb]; exact h⟩
theorem frz_up {a b : Addr} {us : List V} {u w : HO} {o : Obj} (h : H b = some (.frz o w)) (ha : H a = some (.lst us)) : upd H a u b = some (.frz o w) := by
  have nb : b ≠ a := fun q => by rw [q, ha] at h; cases h
  rw [upd_ne nb]; exact h
theorem Ho.up {a : Addr} {us : List V} {u : HO} {v : V} {x : Dt} {F : List Addr} (h : Ho K H v x F) (ha : H a = some (.lst us)) (hn : a ∉ F) : Ho K (upd H a u) v x F :=
  h.stay (fun b xs z => rd_up z ha) (fun b o w z => frz_up z ha) fun b hb => upd_ne fun q => hn (q ▸ hb)
theorem HoL.up {a : Addr} {us : List V} {u : HO} {v : List V} {x : List Dt} {F : List Addr} (h : HoL K H v x F) (ha : H a = some (.lst us)) (hn : a ∉ F) : HoL K (upd H a u) v x F :=
  h.stay (fun b xs z => rd_up z ha) (fun b o w z => frz_up z ha) fun b hb => upd_ne fun q => hn (q ▸ hb)
theorem fm_up {a : Addr} {us ws : List V} (ht : Hotty M H) (ha : M a) (h : H a = some (.lst us)) : Fm M H M (upd H a (.lst ws)) :=
  ⟨fun b o e hn => by rw [upd_ne fun q => hn (by rw [q]; exact ha)]; exact e, fun b z => .inl z, ht⟩
theorem hot_up {a : Addr} {ws : List V} (ht : Hotty M H) : Hotty M (upd H a (.lst ws)) := fun b z => by
  by_cases q : b = a
  · rw [q]; exact ⟨_, upd_same, trivial⟩
  · rw [upd_ne q]; exact ht b z
/-- a list's items after one more -/
def apL : Vl → Vl → Option Vl
  | (.l xs, .t), y => if xs.length < LIM then some (.l (xs ++ [y.1]), .t) else none
  | (.l xs, .a), y => if xs.length < LIM ∧ zfl y = true then some (.l (xs ++ [y.1]), .a) else none
  | _, _ => none
def sApp (i : Nat) (f : Ev → Ou Vl) : Ev → So := sWith f fun y r => match r[i]? with
  | some (some x) => match apL x y with
    | some x' => .nx (r.set i (some x'))
    | none => .no
  | _ => .no
theorem lim_lt {n : Nat} (h : n < LIM) : n < sizeLine := Nat.lt_of_lt_of_le h (by decide)
/-- what the machine does with a list that grows by one: the heap alone -/
theorem ap_go {i : Nat} {x x' : Vl} {y : Dt} {my : Md} {w v : V} {F : List Addr} (e : ER K r σ G M H) (hr : r[i]? = some (some x)) (hv : σ[i]? = some (some v)) (rp : Rp K M H my w y F) (nd : F.Nodup) (hot : ∀ b ∈ F, M b ∧ ∀ j, b ∉ G j) (ha : apL x (y, my) = some x') :
    ∃ a us, v = .ref a ∧ H a = some (.lst us) ∧ us.length < sizeLine ∧ ∃ M' F', ER K (r.set i (some x')) σ (fun j => if j = i then F' else G j) M' (upd H a (.lst (us ++ [w]))) ∧ (∀ b ∈ F', b ∈ G i ∨ b ∈ F) ∧ (∀ b, M' b → M b) ∧ (∀ b, M b → b ∉ F → M' b) ∧ a ∈ G i := by
  obtain ⟨x, m⟩ := x
  obtain ⟨v', hv', rpx⟩ := e.at_ i x m hr
  rw [hv] at hv'; cases hv'
  have hx : ∃ xs, x = .l xs := by
    cases x with
    | l xs => exact ⟨xs, rfl⟩
    | _ => simp [apL] at ha
  obtain ⟨xs, rfl⟩ := hx
  cases m with
  | c => simp [apL] at ha
  | t =>
    simp only [apL] at ha
    split at ha
    · rename_i hl
      cases ha
      obtain ⟨a, us, zs, rfl, hz, hg, h3, c⟩ := rpx
      cases hz
      have aG : a ∈ G i := by rw [hg]; simp
      have aM := e.sub i a aG
      refine ⟨a, us, rfl, h3, by rw [c.len]; exact lim_lt hl, fun b => M b ∧ b ∉ F, [a], e.wr hv (fun b o h hb => by rw [upd_ne fun q => hb (by rw [q]; exact aG)]; exact h) (fun b z => .inl z.1) (fun j b _ hb => ⟨e.sub j b hb, fun z => (hot b z).2 j hb⟩) (fun b z => hot_up e.hot b z.1) ⟨a, us ++ [w], xs ++ [y], rfl, rfl, rfl, upd_same, ?_⟩ (by simp) (fun b hb => ?_), fun b hb => .inl (by rw [hg]; exact hb), fun b z => z.1, fun b h1 h2 => ⟨h1, h2⟩, aG⟩
      · have c2 : CoL K (fun b => M b ∧ b ∉ F) H us xs := c.less (fun b z => z.1) e.hot
        have c3 : Co K (fun b => M b ∧ b ∉ F) H w y := rp.cold e.hot (fun b hb z => z.2 hb) fun b z => z.1
        exact (c2.snoc c3).fm (fm_up (fun b z => e.hot b z.1) ⟨aM, fun z => (hot a z).2 i aG⟩ h3)
      · rw [List.mem_singleton.mp hb]
        exact ⟨⟨aM, fun z => (hot a z).2 i aG⟩, fun j hj z => e.dj j i hj a z aG⟩
    · cases ha
  | a =>
    simp only [apL] at ha
    split at ha
    · rename_i hl
      cases ha
      have rpx : Ho K H v (.l xs) (G i) := rpx
      have hy := rp.toA hl.2
      generalize hG : G i = Gi at rpx
      cases rpx with
      | @l a us _ F1 h3 c =>
        have aG : a ∈ G i := by rw [hG]; exact List.mem_cons_self
        have nG := e.nd i
        rw [hG] at nG
        obtain ⟨n1, n2⟩ := List.nodup_cons.mp nG
        have aF : a ∉ F := fun z => (hot a z).2 i aG
        have FG : ∀ b ∈ F, b ∉ F1 := fun b hb z => (hot b hb).2 i (by rw [hG]; exact List.mem_cons_of_mem _ z)
        have ln : ∀ {us : List V} {xs : List Dt} {F : List Addr}, HoL K H us xs F → us.length = xs.length := by
          intro us xs F h
          exact (h.cold (M := fun _ => False) fun _ _ z => z).len
        refine ⟨a, us, rfl, h3, by rw [ln c]; exact lim_lt hl.1, M, a :: (F1 ++ F), e.wr hv (fun b o h hb => by rw [upd_ne fun q => hb (by rw [q]; exact aG)]; exact h) (fun b z => .inl z) (fun j b _ hb => e.sub j b hb) (hot_up e.hot) (Ho.l upd_same ((c.snoc hy).up h3 (by simp [n1, aF]))) ?_ (fun b hb => ?_), fun b hb => ?_, fun b z => z, fun b h _ => h, by simp⟩
        · refine List.nodup_cons.mpr ⟨by simp [n1, aF], List.nodup_append.mpr ⟨n2, nd, fun b hb c hc q => FG c hc (q ▸ hb)⟩⟩
        · rcases List.mem_cons.mp hb with q | hb
          · rw [q]; exact ⟨e.sub i a aG, fun j hj z => e.dj j i hj a z aG⟩
          · rcases List.mem_append.mp hb with hb | hb
            · have bG : b ∈ G i := by rw [hG]; exact List.mem_cons_of_mem _ hb
              exact ⟨e.sub i b bG, fun j hj z => e.dj j i hj b z bG⟩
            · exact ⟨(hot b hb).1, fun j _ => (hot b hb).2 j⟩
        · rcases List.mem_cons.mp hb with q | hb
          · rw [q]; exact .inl List.mem_cons_self
          · rcases List.mem_append.mp hb with hb | hb
            · exact .inl (List.mem_cons_of_mem _ hb)
            · exact .inr hb
    · cases ha
/-- the state behind it, as from the statement's beginning -/
theorem ap_evo {x : Dt} {m : Md} {w : V} {F F' : List Addr} {i : Nat} {a : Addr} {us : List V} {M2 : Addr → Prop} (e : ER K r σ G M H) (p : PX K r' σ H M G w x m H' M' G' F) (hF : ∀ b ∈ F', b ∈ G' i ∨ b ∈ F) (h1 : ∀ b, M2 b → M' b) (h2 : ∀ b, M' b → b ∉ F → M2 b) (ha : a ∈ G' i) :
    Evo H M G (upd H' a (.lst us)) M2 (fun j => if j = i then F' else G' j) [] := by
  have na : ∀ b o, H b = some o → (∀ j, b ∉ G j) → b ≠ a := fun b o h hb q => by
    rcases p.ev.env i a ha with ⟨j, z⟩ | z
    · exact hb j (by rw [q]; exact z)
    · rw [q, z] at h; cases h
  refine ⟨fun b o h hb => by rw [upd_ne (na b o h hb)]; exact p.ev.pres b o h hb, fun b h => ?_, fun b z => p.ev.grow b (h1 b z), fun b h hb => h2 b (p.ev.keep b h hb) fun z => ?_, fun j b hb => ?_, fun _ z => nomatch z⟩
  · by_cases q : b = a
    · rw [q, upd_same] at h; cases h
    · rw [upd_ne q] at h; exact p.ev.dom b h
  · rcases p.ev.res b z with ⟨j, q⟩ | q
    · exact hb j q
    · obtain ⟨zs, q2, _⟩ := e.hot b h
      rw [q2] at q; cases q
  · by_cases q : j = i
    · simp only [if_pos q] at hb
      exact (hF b hb).elim (p.ev.env i b) (p.ev.res b)
    · simp only [if_neg q] at hb
      exact p.ev.env j b hb
theorem ty_list {a : Addr} {us : List V} (h : H a = some (.lst us)) : tyV K "list" (.ref a) H := .inl ⟨rfl, us, .inl (.inl h)⟩
/-- who holds a list knows it -/
theorem ER.isL {i : Nat} {x : Vl} (e : ER K r σ G M H) (hr : r[i]? = some (some x)) (hx : ∃ xs, x.1 = .l xs) : ∃ a us, σ[i]? = some (some (.ref a)) ∧ H a = some (.lst us) := by
  obtain ⟨x, m⟩ := x
  obtain ⟨xs, hx⟩ := hx
  simp only at hx
  subst hx
  obtain ⟨v, hv, rp⟩ := e.at_ i _ m hr
  cases m with
  | c =>
    obtain ⟨a, us, rfl, h, _⟩ := rp.1.lst
    exact ⟨a, us, hv, h⟩
  | t =>
    obtain ⟨a, us, zs, rfl, _, _, h, _⟩ := rp
    exact ⟨a, us, hv, h⟩
  | a =>
    have rp : Ho K H v (.l xs) (G i) := rp
    generalize G i = Gi at rp
    cases rp with
    | l h _ => exact ⟨_, _, hv, h⟩
def isL (i : Nat) (r : Ev) : Bool := match r[i]? with
  | some (some (.l _, _)) => true
  | _ => false
theorem ER.isL' {i : Nat} (e : ER K r σ G M H) (h : Y.isL i r = true) : ∃ a us, σ[i]? = some (some (.ref a)) ∧ H a = some (.lst us) := by
  unfold Y.isL at h
  split at h
  · rename_i xs m hr
    exact e.isL hr ⟨xs, rfl⟩
  · cases h
def sAppG (i : Nat) (f : Ev → Ou Vl) : Ev → So := fun r => if isL i r then sApp i f r else .no
end
section
variable {X : Cx} {cl : Str → Addr} {W : WX} {io : Bool}
theorem js_app {o a : Expr} {f : Ev → Ou Vl} {ap cp pos : Pos} (i : Nat) (ho : PE X o (tVar i)) (ha : JE X cl W a f) (hbase : attributeBase o "append" X.env (eval o X.env) = eval o X.env := by rfl)
    (hfew : ((backTo cp (starEach [a] X.env)).all (fun x => !x.1) && (backToKw cp (keywordEach [] X.env)).all (fun x => x.1.isSome) && decide (([a] : List Expr).length + ([] : List Keyword).length + (if ([] : List Keyword).isEmpty then 0 else 1) < 30)) = true := by rfl)
    (hline : (ap.endLine == cp.line) = true := by rfl) (hs : starEach [a] X.env = (false, eval a X.env) :: starEach [] X.env := by rfl) (hplain : (backTo cp (starEach [] X.env)).any (·.1) = false := by rfl) (hsw : swapsWith (.Call (.Attribute o "append" ap) [a] [] cp) none pos.line X.env = pure false := by rfl) :
    JS X cl W io (.Expr (.Call (.Attribute o "append" ap) [a] [] cp) pos) (sAppG i f) := fun tk =>
  (ps_expr (pe_bm PySem.F.plainAttrs_list PySem.F.slot_list_append PySem.F.type_list_append mt_append ho (pa_cons (ha tk) pa_nil hs) hbase hfew hline hs hplain) hsw).yimp fun D σ H ⟨r, M, G, e, q⟩ => by
    simp only [sAppG] at q
    split at q
    · rename_i hL
      obtain ⟨a0, us0, hv0, hh0⟩ := e.isL' hL
      refine ⟨.ref a0, hv0, ty_list hh0, ?_⟩
      have q : tIS X.K cl W io (sApp i f) D σ H := ⟨r, M, G, e, q⟩
      refine tIS_with q fun r M G y m r' w H' M' G' F e p k => ?_
      cases hr : r'[i]? with
      | none => simp only [hr] at k; exact k.elim
      | some o =>
        cases o with
        | none => simp only [hr] at k; exact k.elim
        | some x =>
          simp only [hr] at k
          cases hx : apL x (y, m) with
          | none => simp only [hx] at k; exact k.elim
          | some x' =>
            simp only [hx] at k
            obtain ⟨a, us, h1, h2, h3, M2, F', e2, hF, m1, m2, aG⟩ := ap_go p.er hr hv0 p.rp p.nd p.hot hx
            cases h1
            refine ⟨a0, us, w, rfl, rfl, h2, h3, ?_⟩
            exact k σ _ M2 _ ⟨e2, ap_evo e p hF m1 m2 aG, fun _ => rfl⟩
    · exact q.elim
end
section
variable {K : PySem.W.Frag} {cl : Str → Addr} {W : WX} {io : Bool} {M M' M0 : Addr → Prop} {H H' H0 : Hp} {G G' G0 : Nat → List Addr} {r r' : Ev} {σ σ0 : L2.St} {D : Ends}
theorem CoL.set {vs : List V} {xs : List Dt} {w : V} {y : Dt} : ∀ {j : Nat}, CoL K M H vs xs → Co K M H w y → CoL K M H (vs.set j w) (xs.set j y)
  | _, .nil, _ => .nil
  | 0, .cons _ q, c => .cons c q
  | j + 1, .cons h q, c => .cons h (CoL.set q c)
theorem HoL.len {vs : List V} {xs : List Dt} {F : List Addr} (h : HoL K H vs xs F) : vs.length = xs.length := (h.cold (M := fun _ => False) fun _ _ z => z).len
theorem HoL.set {w : V} {y : Dt} {Fy : List Addr} (hy : Ho K H w y Fy) (ny : Fy.Nodup) : ∀ {j : Nat} {vs : List V} {xs : List Dt} {F : List Addr}, j < xs.length → HoL K H vs xs F → F.Nodup → (∀ b ∈ Fy, b ∉ F) → ∃ F', HoL K H (vs.set j w) (xs.set j y) F' ∧ (∀ b ∈ F', b ∈ F ∨ b ∈ Fy) ∧ F'.Nodup
  | _, _, _, _, hj, .nil, _, _ => by simp at hj
  | 0, _, _, _, hj, .cons (F := F1) (F' := F2) h q, nd, dj => by
    obtain ⟨n1, n2, n3⟩ := List.nodup_append.mp nd
    exact ⟨Fy ++ F2, .cons hy q, fun b hb => (List.mem_append.mp hb).elim .inr fun z => .inl (List.mem_append_right _ z), List.nodup_append.mpr ⟨ny, n2, fun a ha b hb z => dj a ha (by rw [z]; exact List.mem_append_right _ hb)⟩⟩
  | j + 1, _, _, _, hj, .cons (F := F1) (F' := F2) h q, nd, dj => by
    obtain ⟨n1, n2, n3⟩ := List.nodup_append.mp nd
    obtain ⟨F', h1, h2, h3⟩ := HoL.set hy ny (j := j) (by simpa using hj) q n2 fun b hb z => dj b hb (List.mem_append_right _ z)
    refine ⟨F1 ++ F', .cons h h1, fun b hb => ?_, List.nodup_append.mpr ⟨n1, h3, fun a ha b hb z => ?_⟩⟩
    · rcases List.mem_append.mp hb with hb | hb
      · exact .inl (List.mem_append_left _ hb)
      · exact (h2 b hb).imp (List.mem_append_right _) id
    · rcases h2 b hb with hb | hb
      · exact n3 a ha b hb z
      · exact dj b hb (List.mem_append_left _ (z ▸ ha))
/-- an item stored -/
def stL : Vl → Int → Vl → Option Vl
  | (.l xs, .t), k, y => (ixN xs.length k).map fun j => (.l (xs.set j y.1), .t)
  | (.l xs, .a), k, y => if zfl y = true then (ixN xs.length k).map fun j => (.l (xs.set j y.1), .a) else none
  | _, _, _ => none
def tgI (i : Nat) (f : Ev → Ou Vl) : Vl → Ev → Option Ev := fun y r => if isL i r then
    match f r with
    | .ok (.i k, _) r1 => match r1[i]? with
      | some (some x) => (stL x k y).map fun x' => r1.set i (some x')
      | _ => none
    | _ => none
  else none
theorem ixN_lt {n : Nat} {k : Int} {j : Nat} (h : ixN n k = some j) : j < n := by
  unfold ixN at h
  repeat' split at h
  all_goals first | (cases h; omega) | (simp at h; omega) | cases h
theorem st_go {i : Nat} {x x' : Vl} {k : Int} {y : Dt} {my : Md} {w v : V} {F : List Addr} (e : ER K r σ G M H) (hr : r[i]? = some (some x)) (hv : σ[i]? = some (some v)) (rp : Rp K M H my w y F) (nd : F.Nodup) (hot : ∀ b ∈ F, M b ∧ ∀ j, b ∉ G j) (ha : stL x k (y, my) = some x') :
    ∃ a us j, v = .ref a ∧ H a = some (.lst us) ∧ ixN us.length k = some j ∧ ∃ M' F', ER K (r.set i (some x')) σ (fun j => if j = i then F' else G j) M' (upd H a (.lst (us.set j w))) ∧ (∀ b ∈ F', b ∈ G i ∨ b ∈ F) ∧ (∀ b, M' b → M b) ∧ (∀ b, M b → b ∉ F → M' b) ∧ a ∈ G i := by
  obtain ⟨x, m⟩ := x
  obtain ⟨v', hv', rpx⟩ := e.at_ i x m hr
  rw [hv] at hv'; cases hv'
  have hx : ∃ xs, x = .l xs := by
    cases x with
    | l xs => exact ⟨xs, rfl⟩
    | _ => simp [stL] at ha
  obtain ⟨xs, rfl⟩ := hx
  cases m with
  | c => simp [stL] at ha
  | t =>
    simp only [stL, Option.map_eq_some_iff] at ha
    obtain ⟨j, hj, rfl⟩ := ha
    obtain ⟨a, us, zs, rfl, hz, hg, h3, c⟩ := rpx
    cases hz
    have aG : a ∈ G i := by rw [hg]; simp
    have aM := e.sub i a aG
    refine ⟨a, us, j, rfl, h3, by rw [c.len]; exact hj, fun b => M b ∧ b ∉ F, [a], e.wr hv (fun b o h hb => by rw [upd_ne fun q => hb (by rw [q]; exact aG)]; exact h) (fun b z => .inl z.1) (fun j b _ hb => ⟨e.sub j b hb, fun z => (hot b z).2 j hb⟩) (fun b z => hot_up e.hot b z.1) ⟨a, us.set j w, xs.set j y, rfl, rfl, rfl, upd_same, ?_⟩ (by simp) (fun b hb => ?_), fun b hb => .inl (by rw [hg]; exact hb), fun b z => z.1, fun b h1 h2 => ⟨h1, h2⟩, aG⟩
    · have c2 : CoL K (fun b => M b ∧ b ∉ F) H us xs := c.less (fun b z => z.1) e.hot
      have c3 : Co K (fun b => M b ∧ b ∉ F) H w y := rp.cold e.hot (fun b hb z => z.2 hb) fun b z => z.1
      exact (c2.set c3).fm (fm_up (fun b z => e.hot b z.1) ⟨aM, fun z => (hot a z).2 i aG⟩ h3)
    · rw [List.mem_singleton.mp hb]
      exact ⟨⟨aM, fun z => (hot a z).2 i aG⟩, fun j hj z => e.dj j i hj a z aG⟩
  | a =>
    simp only [stL] at ha
    split at ha
    · rename_i hl
      simp only [Option.map_eq_some_iff] at ha
      obtain ⟨j, hj, rfl⟩ := ha
      have rpx : Ho K H v (.l xs) (G i) := rpx
      have hy := rp.toA hl
      generalize hG : G i = Gi at rpx
      cases rpx with
      | @l a us _ F1 h3 c =>
        have aG : a ∈ G i := by rw [hG]; exact List.mem_cons_self
        have nG := e.nd i
        rw [hG] at nG
        obtain ⟨n1, n2⟩ := List.nodup_cons.mp nG
        have aF : a ∉ F := fun z => (hot a z).2 i aG
        have FG : ∀ b ∈ F, b ∉ F1 := fun b hb z => (hot b hb).2 i (by rw [hG]; exact List.mem_cons_of_mem _ z)
        obtain ⟨F', c2, s2, nd2⟩ := HoL.set hy nd (ixN_lt hj) c n2 FG
        have aF' : a ∉ F' := fun z => (s2 a z).elim n1 aF
        refine ⟨a, us, j, rfl, h3, by rw [c.len]; exact hj, M, a :: F', e.wr hv (fun b o h hb => by rw [upd_ne fun q => hb (by rw [q]; exact aG)]; exact h) (fun b z => .inl z) (fun j b _ hb => e.sub j b hb) (hot_up e.hot) (Ho.l upd_same (c2.up h3 aF')) (List.nodup_cons.mpr ⟨aF', nd2⟩) (fun b hb => ?_), fun b hb => ?_, fun b z => z, fun b h _ => h, by simp⟩
        · rcases List.mem_cons.mp hb with q | hb
          · rw [q]; exact ⟨e.sub i a aG, fun j hj z => e.dj j i hj a z aG⟩
          · rcases s2 b hb with hb | hb
            · have bG : b ∈ G i := by rw [hG]; exact List.mem_cons_of_mem _ hb
              exact ⟨e.sub i b bG, fun j hj z => e.dj j i hj b z bG⟩
            · exact ⟨(hot b hb).1, fun j _ => (hot b hb).2 j⟩
        · rcases List.mem_cons.mp hb with q | hb
          · rw [q]; exact .inl List.mem_cons_self
          · exact (s2 b hb).imp (List.mem_cons_of_mem _) id
    · cases ha
theorem tg_ix {i : Nat} {f : Ev → Ou Vl} : TgOk K io (gSub (tVar i) (tI K cl W f) rSetL) (tgI i f) := fun r σ G M H v x m F r' Q e rp nd hot ht k => by
  unfold tgI at ht
  split at ht
  · rename_i hL
    obtain ⟨a0, us0, hv0, hh0⟩ := e.isL' hL
    refine ⟨.ref a0, hv0, r, M, G, e, ?_⟩
    cases hf : f r with
    | no => rw [hf] at ht; cases ht
    | ex c fs r1 => rw [hf] at ht; cases ht
    | ok km r1 =>
      obtain ⟨kd, mk⟩ := km
      rw [hf] at ht
      cases kd with
      | i k0 =>
        simp only at ht
        intro u H1 M1 G1 F1 p
        have hu : u = .int k0 := by
          obtain ⟨M2, _, _, c⟩ := p.giveUp e.hot
          exact c.int
        subst hu
        cases hr : r1[i]? with
        | none => rw [hr] at ht; cases ht
        | some o =>
          cases o with
          | none => rw [hr] at ht; cases ht
          | some xv =>
            rw [hr] at ht
            simp only [Option.map_eq_some_iff] at ht
            obtain ⟨x', hx', rfl⟩ := ht
            obtain ⟨rp1, hot1, _⟩ := rp.evo hot e p.ev
            obtain ⟨a, us, j, h1, h2, h3, M2, F', e2, hF, m1, m2, aG⟩ := st_go p.er hr hv0 rp1 nd hot1 hx'
            cases h1
            have na : ∀ b o, H b = some o → (∀ j, b ∉ G j) → b ≠ a0 := fun b o h hb q => by
              rcases p.ev.env i a0 aG with ⟨j, z⟩ | z
              · exact hb j (by rw [q]; exact z)
              · rw [q, z] at h; cases h
            refine ⟨a0, us, k0, j, rfl, rfl, h2, h3, k σ _ M2 _ e2 (fun b o h hb _ => by rw [upd_ne (na b o h hb)]; exact p.ev.pres b o h hb) (fun b h => ?_) (fun b z => p.ev.grow b (m1 b z)) (fun b h hb hf => m2 b (p.ev.keep b h hb) hf) (fun l b hb => ?_) fun _ => rfl⟩
            · by_cases q : b = a0
              · rw [q, upd_same] at h; cases h
              · rw [upd_ne q] at h; exact p.ev.dom b h
            · by_cases q : l = i
              · simp only [if_pos q] at hb
                rcases hF b hb with z | z
                · exact (p.ev.env i b z).imp id .inr
                · exact .inr (.inl z)
              · simp only [if_neg q] at hb
                exact (p.ev.env l b hb).imp id .inr
      | _ => cases ht
  · cases ht
end
section
variable {X : Cx} {cl : Str → Addr} {W : WX} {io : Bool}
theorem js_setI {o ix e : Expr} {f fi : Ev → Ou Vl} {sp pos : Pos} (i : Nat) (ho : PE X o (tVar i)) (hi : JE X cl W ix fi) (he : JE X cl W e f)
    (ha : ∀ v, assign (.Subscript o ix sp) X.env v = (do
      let ov ← holding [v] (eval o X.env)
      let iv ← holding [v, ov] (eval ix X.env)
      standAt sp
      holding [v, ov, iv] (setItem ov iv v)
      release [v, ov, iv] []) := by intro _; rfl)
    (hs : swapsWithSole [.Subscript o ix sp] e pos.line X.env = pure false := by rfl) (hw : swappedStores [.Subscript o ix sp] e X.env = pure none := by rfl)
    (h1 : (assignEach [.Subscript o ix sp] X.env).map (·.2) = [assign (.Subscript o ix sp) X.env] := by rfl) : JS X cl W io (.Assign [.Subscript o ix sp] e pos) (sAsg f (tgI i fi)) := fun tk =>
  (ps_asg (he tk) (pg_sub ho (hi tk) set_list ha) hs hw h1).yimp fun _ _ _ q => asg_go tg_ix q
end
end Y
namespace Y
open PySem L2 PyProof.Rows
/-- enumerate(v), v's iterator told by how it begins -/
theorem enumB_new {v : Value} {o : Obj} {S : Heap → Prop} (B : Begins v o S) : Meets (Builtin.«enumerate.__new__» ⟨[.type "enumerate", v], []⟩) (fun _ R s => S s.heap ∧ R (.ok (.ret (.ref (s.heap.push o).objs.size)))
    { s with heap := (s.heap.push o).push { cls := .type "enumerate", data := .fields #[.none, .bool false, .ref s.heap.objs.size, rawInt 0, .none, .none] } }) :=
  .of_wp fun prog w A R s h => by
    obtain ⟨hp, g, d, tk, os⟩ := s; obtain ⟨h1, h⟩ := h
    have hsub := sub_enumerate
    have q1 : ∀ {A' : Around} {E Q : Value → Shared → Prop}, Q (.ref hp.objs.size) ⟨hp.push o, g, d, tk, os⟩ → wpAny (model prog w) A' (pyIter v) Q E ⟨hp, g, d, tk, os⟩ := fun q => B.iter prog w _ _ ⟨hp, g, d, tk, os⟩ _ h1 q
    wp_walk using q1
    refine wpAny_stack_any fun st => wpAny_pure ?_
    split
    · rename_i c _ _ _ _ _
      cases (c == Value.type "enumerate") <;> (wp_walk using q1; exact ⟨_, rfl, h⟩)
    · wp_walk using q1
      exact ⟨_, rfl, h⟩
theorem call_enumB {prog : Program} {w : World} {A : Around} {E : Value → Shared → Prop} {s : Shared} {v : Value} {o : Obj} {S : Heap → Prop} {Q : Value → Shared → Prop} (B : Begins v o S) (h1 : S s.heap)
    (h : ∀ h', IsEnum h' (s.heap.objs.size + 1) s.heap.objs.size 0 .none → h'.get? s.heap.objs.size = some o → (∀ b u, s.heap.get? b = some u → h'.get? b = some u) → Q (.ref (s.heap.objs.size + 1)) { s with heap := h' }) :
    wpAny (model prog w) A (PySem.call (.type "enumerate") [v]) Q E s := by
  refine callType_new F.called_enumerate (by decide) (F.typeCall_enumerate_1 _) (F.newCall_enumerate_1 _) (fun obj => F.args_object_init_2 obj _) F.entry_enumerate_new (enumB_new B) ⟨h1, ?_⟩
  have hz : (s.heap.push o).objs.size = s.heap.objs.size + 1 := Heap.size_push ..
  show _ ∧ _
  rw [hz]
  have he : IsEnum ((s.heap.push o).push { cls := .type "enumerate", data := .fields #[.none, .bool false, .ref s.heap.objs.size, rawInt 0, .none, .none] }) (s.heap.objs.size + 1) s.heap.objs.size 0 .none := by
    have z := Heap.get?_push_size (s.heap.push o) (o := { cls := .type "enumerate", data := .fields #[.none, .bool false, .ref s.heap.objs.size, rawInt 0, .none, .none] }) rfl
    rwa [hz] at z
  exact ⟨⟨_, he, rfl⟩, h _ he (Heap.get?_push_of_some _ (Heap.get?_push_size _ B.free)) fun b u x => Heap.get?_push_of_some _ (Heap.get?_push_of_some _ x)⟩
/-- a tuple's items with their numbers -/
def IteT (K : PySem.W.Frag) (a : Addr) : It :=
  ⟨fun i H => ∃ (xs : List V) (x : V), SqT K H a xs ∧ xs[i]? = some x, fun i H v H' => ∃ T x, v = .ref T ∧ H T = none ∧ H' = upd H T (.tup [.int (i : Nat), x]) ∧ ∀ xs, SqT K H a xs → xs[i]? = some x, fun i H => ∃ xs : List V, SqT K H a xs ∧ xs.length ≤ i⟩
theorem turn_enumT {P : Program} {w : World} {K : PySem.W.Frag} {elts : List Expr} {kk : Nat} {tpos : Pos} (a e it : Addr) : Turn P w K (.Tuple elts kk tpos) (IteT K a) [e, it] e (fun i h => (∃ old, IsEnum h e it ((i : Nat) : Int) old) ∧ h.IsTupleIter it a i ∧ e ≠ it ∧ e ≠ a ∧ a ≠ it) where
  mem := by simp
  obj := fun i h ⟨⟨old, he⟩, ⟨o, ho, hc, hd⟩, _⟩ b hb => by
    have e' : b = e ∨ b = it := by simpa using hb
    rcases e' with rfl | rfl
    · exact ⟨_, he, fun v q => nomatch q⟩
    · exact ⟨o, ho, fun v q => by rw [hd] at q; cases q⟩
  keep := fun i h h' ⟨⟨old, he⟩, hi, hne⟩ k => ⟨⟨old, k e (by simp) _ he⟩, hi.at fun o q => k it (by simp) o q, hne⟩
  item := by
    intro X hP hw hK hc i pins s σ H E I hf st hg
    subst hP hw hK
    obtain ⟨⟨old, he⟩, hit, hne, hea, hai⟩ := st
    obtain ⟨xs, x, hq, hx⟩ := hg
    obtain ⟨its, rv, p, hz⟩ := I.tuple hq
    obtain ⟨u, hu, ru⟩ := rv.get hx
    have hel : e < s.heap.objs.size := Heap.lt_size he
    have hil : it < s.heap.objs.size := by obtain ⟨_, q, _⟩ := hit; exact Heap.lt_size q
    have D := Draws.tuple (prog := X.prog) (w := X.w) (A := X.A.in1) (I.ok.hd hc) it a hai its.toArray
    have hi : i < its.toArray.size := by
      have := (List.getElem?_eq_some_iff.mp hu).1
      simpa using this
    refine wpAny_pyNext_enum_itemD D he ⟨hit, p⟩ hi hne (by simp [hne, hea]) fun z h' tk hP ho hs hT hsz hk => ?_
    have hzu : z = u := by
      have hP : its.toArray[i]? = some z := hP
      have : its[i]? = some z := by simpa using hP
      rw [hu] at this
      exact (Option.some.inj this).symm
    subst hzu
    refine ⟨_, rfl, wpAny_letOwnedTupleGo_enum (s := { s with heap := h', toks := tk + 1 }) ho fun h'' he' sb => ?_⟩
    have hT2 : h''.get? s.heap.objs.size = some { cls := .type "tuple", data := .seq #[.int i tk, z] } := (sb.2 _ (Nat.ne_of_gt hel)).trans hT
    have new : ObjOk X.prog X.w (upd H s.heap.objs.size (.tup [.int (i : Nat), x])) h'' s.heap.objs.size (.tup [.int (i : Nat), x]) := ⟨by show 2 ≤ sizeLine; decide, [.int i tk, z], .cons ⟨_, rfl⟩ (.cons ru .nil), ⟨_, hT2, rfl, _, rfl⟩⟩
    have I1 : Inv X pins σ (upd H s.heap.objs.size (.tup [.int (i : Nat), x])) { s with heap := h'', toks := tk + 1 } :=
      I.turnedNew (ch := [e, it]) (fun b ob hb q => (sb.2 b fun y => hb (by simp [y])).trans (hk b ob (fun y => hb (by simp [y])) (fun y => hb (by simp [y])) q)) hf (Nat.le_refl _) new
    refine ⟨.ref s.heap.objs.size, _, I1, rfl, ⟨_, x, rfl, I.hok.fresh (Nat.le_refl _), rfl, fun ys hy => by rw [I.tuple_inj hy hq]; exact hx⟩, ⟨⟨z, ?_⟩, hs.1.at fun o q => (sb.2 it (Ne.symm hne)).trans q, hne, hea, hai⟩, fun b hb => ?_⟩
    · rw [show ((i + 1 : Nat) : Int) = (i : Int) + 1 by omega]; exact he'
    · have e' : b = e ∨ b = it := by simpa using hb
      have hb' : b < s.heap.objs.size := by rcases e' with rfl | rfl <;> assumption
      rw [upd_ne (Nat.ne_of_lt hb')]
      exact (hf b hb).1
  done := by
    intro X hP hw hK hc i pins s σ H E I hf st hg
    subst hP hw hK
    obtain ⟨⟨old, he⟩, hit, hne, hea, hai⟩ := st
    obtain ⟨xs, hq, hx⟩ := hg
    obtain ⟨its, rv, p, hz⟩ := I.tuple hq
    obtain ⟨f0, f1, f2, f3, f4, f5⟩ := hf it (by simp)
    have hl := rv.length
    have D := Draws.tuple (prog := X.prog) (w := X.w) (A := X.A.in1) (I.ok.hd hc) it a hai its.toArray
    have step : wpAny (model X.prog X.w) X.A.in1 (Builtin.SmallTypes.nextOf (.ref it)) (fun _ _ => False) (fun x s' => ∃ h', x = x ∧ Heap.ExtBut it s.heap h' ∧ s' = { s with heap := h' } ∧ ∃ z o, x = .ref z ∧ h'.get? z = some o ∧ o.cls = .type "StopIteration") s :=
      wpAny_nextOf_tuple_end (I.ok.hd hc) hit p (by simp; omega) fun h' x eb hx' => let ⟨o, ho, hc'⟩ := hx'; ⟨h', rfl, eb, rfl, x, o, rfl, ho, hc'⟩
    unfold pyNext
    refine wpAny_bind (wpAny_attempt (wpAny_callSpecial?_slot (name := Str.ofString "__next__") (show s.TypeIs (.ref e) "enumerate" from ⟨_, he, rfl⟩) F.slot_enumerate_next (wpAny_call_entry F.slot_enumerate_next ⟨_, he, rfl⟩ F.entry_enumerate_next ?_ (F.args_enumerate_next_1 _))))
    show wpAny _ _ (field (.ref e) 2 >>= _) _ _ _
    refine wpAny_bind (wpAny_field he rfl (x := .ref it) rfl ?_)
    refine wpAny_bind (wpAny_mono step (fun _ _ z => z.elim) fun x s' ⟨h', _, eb, es, z, o, ex, ho, hc'⟩ => ?_)
    subst es; subst ex
    exact wpAny_bind (wpAny_isInstance (T := "StopIteration") (b := true) ⟨o, ho, hc'⟩ isSubtype_stop (wpAny_pure ⟨rfl, I.turned (t' := s.toks) (fun b o hb q => eb b o hb q) f0 f1 f3 f4 f5⟩))
  self := fun A i s Q E ⟨⟨_, he⟩, _⟩ h => wpAny_pyIter_enum he h
theorem enumT_go {X : Cx} {pins : List (Addr × Obj)} {σ : L2.St} {H1 : Hp} {s1 : Shared} {R : It → Hp → Prop} {tpos : Pos} {elts : List Expr} {kk : Nat} {us : List Value} {vs xs : List V} {a : Addr} (I1 : Inv X pins σ H1 s1) (r1 : Vals vs us) (ex : vs = [.ref a]) (hq : SqT X.K H1 a xs) (q : R (IteT X.K a) H1) :
    wpAny (model X.prog X.w) X.A (PySem.call (.type "enumerate") us) (fun v s' => wpAny (model X.prog X.w) X.A (pyIter v) (PIE X pins σ (.Tuple elts kk tpos) R) X.xe s') X.xe s1 := by
  subst ex
  rw [Vals.ref1 r1]
  obtain ⟨its, rv, p', hz⟩ := I1.tuple hq
  have hlt : a < s1.heap.objs.size := by obtain ⟨_, z, _⟩ := p'; exact Heap.lt_size z
  refine call_enumB (begins_tuple a its.toArray) p' fun h' he hit hk => wpAny_pyIter_enum he ?_
  have I2 : Inv X pins σ H1 { s1 with heap := h' } := I1.kept (t' := s1.toks) hk
  refine ⟨s1.heap.objs.size + 1, [s1.heap.objs.size + 1, s1.heap.objs.size], _, _, H1, rfl, I2, turn_enumT a (s1.heap.objs.size + 1) s1.heap.objs.size, ⟨⟨.none, he⟩, ⟨_, hit, rfl, rfl⟩, Nat.succ_ne_self _, (Nat.ne_of_lt (Nat.lt_succ_of_lt hlt)).symm, Nat.ne_of_lt hlt⟩, fun b hb => ?_, q⟩
  have e' : b = s1.heap.objs.size + 1 ∨ b = s1.heap.objs.size := by simpa using hb
  have hle : s1.heap.objs.size ≤ b := by
    rcases e' with rfl | rfl
    · exact Nat.le_succ _
    · exact Nat.le_refl _
  exact I1.fpOk hle (I1.hok.fresh hle)
theorem enumL_go {X : Cx} {pins : List (Addr × Obj)} {σ : L2.St} {H1 : Hp} {s1 : Shared} {R : It → Hp → Prop} {tpos : Pos} {elts : List Expr} {kk : Nat} {us : List Value} {vs xs : List V} {a : Addr} (I1 : Inv X pins σ H1 s1) (r1 : Vals vs us) (ex : vs = [.ref a]) (hq : SqL X.K H1 a xs) (q : R (Ite X.K a) H1) :
    wpAny (model X.prog X.w) X.A (PySem.call (.type "enumerate") us) (fun v s' => wpAny (model X.prog X.w) X.A (pyIter v) (PIE X pins σ (.Tuple elts kk tpos) R) X.xe s') X.xe s1 := by
  subst ex
  rw [Vals.ref1 r1]
  obtain ⟨its, rv, p', hz⟩ := I1.list hq
  refine call_enumerate_list p'.isList fun h' he hit hsz hk => wpAny_pyIter_enum he ?_
  have I2 : Inv X pins σ H1 { s1 with heap := h' } := I1.kept (t' := s1.toks) hk
  refine ⟨s1.heap.objs.size + 1, [s1.heap.objs.size + 1, s1.heap.objs.size], _, _, H1, rfl, I2, turn_enum a (s1.heap.objs.size + 1) s1.heap.objs.size, ⟨⟨.none, he⟩, hit, Nat.succ_ne_self _⟩, fun b hb => ?_, q⟩
  have e' : b = s1.heap.objs.size + 1 ∨ b = s1.heap.objs.size := by simpa using hb
  have hle : s1.heap.objs.size ≤ b := by
    rcases e' with rfl | rfl
    · exact Nat.le_succ _
    · exact Nat.le_refl _
  exact I1.fpOk hle (I1.hok.fresh hle)
def iEnumA (K : PySem.W.Frag) (ta : TA) : TI := fun σ H R => ta σ H fun vs H1 => ∃ a xs, vs = [.ref a] ∧ ((SqL K H1 a xs ∧ R (Ite K a) H1) ∨ (SqT K H1 a xs ∧ R (IteT K a) H1))
end Y
namespace Y
open PySem L2 PyProof.Rows
section
variable {K : PySem.W.Frag} {cl : Str → Addr} {W : WX} {io : Bool} {M M' M0 : Addr → Prop} {H H' H0 : Hp} {G G' G0 : Nat → List Addr} {r r' : Ev} {σ σ0 : L2.St}
def PrS (K : PySem.W.Frag) (rr : List V → Hp → (It → Hp → Prop) → Prop) (f : List Dt → Option (List Dt)) : Prop :=
  ∀ (M : Addr → Prop) (H : Hp) (vs : List V) (xs ds : List Dt) (R : It → Hp → Prop), Hotty M H → CoL K M H vs xs → f xs = some ds → (∀ J, SrcOk K J M H ds → R J H) → rr vs H R
def mS (f : List Dt → Option (List Dt)) (as : List Am) : Ev → Ou (List Dt) := fun r => match evA as r with
  | .ok ys r1 => match look r1 ys with
    | some xs => match f xs with
      | some ds => .ok ds (frz ys r1)
      | none => .no
    | none => .no
  | .ex c fs r1 => .ex c fs r1
  | .no => .no
theorem mS_ok {rr : List V → Hp → (It → Hp → Prop) → Prop} {f : List Dt → Option (List Dt)} (hp : PrS K rr f) {as : List Am} {R : It → Hp → Prop} (h : tII K cl W (mS f as) σ H R) : tOs K cl W as σ H fun vs H1 => rr vs H1 R := by
  obtain ⟨r, M, G, e, h⟩ := h
  refine tOs_ok as e ?_
  simp only [mS] at h
  cases ha : evA as r with
  | no => rw [ha] at h; exact h
  | ex c fs r1 => rw [ha] at h; exact h
  | ok ys r1 =>
    rw [ha] at h
    simp only at h
    intro vs H1 M1 G1 e1 v1 a1
    cases hl : look r1 ys with
    | none => rw [hl] at h; exact h.elim
    | some xs =>
      rw [hl] at h
      simp only at h
      cases hf : f xs with
      | none => rw [hf] at h; exact h.elim
      | some ds =>
        rw [hf] at h
        simp only at h
        have cc : CoL K (fun b => M1 b ∧ b ∉ owns G1 ys) H1 vs xs := look_cold e1 (fun b z => z.1) (fun b hb z => z.2 hb) a1 hl
        have ht1 : Hotty (fun b => M1 b ∧ b ∉ owns G1 ys) H1 := fun b z => e1.hot b z.1
        obtain ⟨G2, e2, s2⟩ := e1.frz ys
        have v2 : Evo H1 M1 G1 H1 (fun b => M1 b ∧ b ∉ owns G1 ys) G2 [] := ⟨fun _ _ h _ => h, fun _ h => h, fun b z => .inl z.1, fun b h hb => ⟨h, fun z => let ⟨i, q⟩ := mem_owns z; hb i q⟩, fun i b hb => .inl ⟨i, s2 i b hb⟩, fun _ h => nomatch h⟩
        exact hp _ H1 vs xs ds R ht1 cc hf fun J so => h J H1 _ _ e2 (v1.trans e.hot v2) so
theorem src_walk {J : It} {xs : List Dt} {n : Nat} {P : Hp → Prop} {Yd : Nat → Hp → V → Hp → Prop} (w : Walk J n P Yd) (hn : n = xs.length) (hp : ∀ M1 H1, Fm M H M1 H1 → P H1)
    (hy : ∀ i x v M1 H1 H2, xs[i]? = some x → Fm M H M1 H1 → Hotty M1 H1 → Yd i H1 v H2 → (∀ b o, H1 b = some o → H2 b = some o) ∧ Co K M1 H2 v x) : SrcOk K J M H xs := by
  subst hn
  exact ⟨fun i M1 H1 hi f => w.goes i H1 hi (hp M1 H1 f), fun M1 H1 f => w.stops H1 (hp M1 H1 f), fun i x v M1 H1 H2 hx f ht y => hy i x v M1 H1 H2 hx f ht (w.yields i H1 v H2 (List.getElem?_eq_some_iff.mp hx).1 (hp M1 H1 f) y)⟩
theorem CoL.at' {us : List V} {xs : List Dt} (c : CoL K M H us xs) {i : Nat} {x : Dt} {v : V} (hx : xs[i]? = some x) (hv : us[i]? = some v) : Co K M H v x := by
  obtain ⟨w, h1, h2⟩ := c.get hx
  rw [hv] at h1; cases h1; exact h2
theorem src_list {a : Addr} {us : List V} {xs : List Dt} (h : ∀ M1 H1, Fm M H M1 H1 → SqL K H1 a us) (c : CoL K M H us xs) : SrcOk K (Itl K a) M H xs :=
  src_walk (walk_list (K := K) (a := a) (xs := us)) c.len h fun i x v M1 H1 H2 hx f ht ⟨e, hv⟩ => by
    subst e
    exact ⟨fun _ _ h => h, (c.fm f).at' hx hv⟩
theorem src_tup {a : Addr} {us : List V} {xs : List Dt} (h : SqT K H a us) (c : CoL K M H us xs) : SrcOk K (Itt K a) M H xs :=
  src_walk (walk_tup (K := K) (a := a) (xs := us)) c.len (fun M1 H1 f => f.sqT h) fun i x v M1 H1 H2 hx f ht ⟨e, hv⟩ => by
    subst e
    exact ⟨fun _ _ h => h, (c.fm f).at' hx hv⟩
def rngD (lo : Int) (n : Nat) : List Dt := (List.range n).map fun (i : Nat) => .i (lo + (i : Int))
theorem src_range {lo : Int} {n : Nat} (ht : Hotty M H) : SrcOk K (Itr lo n) M H (rngD lo n) :=
  src_walk (walk_range (lo := lo) (n := n)) (by simp [rngD]) (fun M1 H1 f => trivial) fun i x v M1 H1 H2 hx f ht ⟨e, hv⟩ => by
    subst e hv
    simp only [rngD, List.getElem?_map, Option.map_eq_some_iff] at hx
    obtain ⟨j, hj, rfl⟩ := hx
    obtain ⟨_, hj⟩ := List.getElem?_eq_some_iff.mp hj
    simp at hj
    subst hj
    exact ⟨fun _ _ h => h, .i _⟩
def rngC (lo c : Int) (n : Nat) : List Dt := (List.range n).map fun (i : Nat) => .i (lo + (i : Int) * c)
/-- a new pair -/
theorem co_pair {T : Addr} {x y : V} {dx dy : Dt} (ht : Hotty M H) (hT : H T = none) (cx : Co K M H x dx) (cy : Co K M H y dy) : (∀ b o, H b = some o → upd H T (.tup [x, y]) b = some o) ∧ Co K M (upd H T (.tup [x, y])) (.ref T) (.t [dx, dy]) := by
  have f : Fm M H M (upd H T (.tup [x, y])) := ⟨fun b o e _ => same_new hT b o e, fun b z => .inl z, ht⟩
  exact ⟨same_new hT, .t (.inl (.inl upd_same)) (.cons (cx.fm f) (.cons (cy.fm f) .nil))⟩
def enumD : Int → List Dt → List Dt
  | _, [] => []
  | k, x :: xs => .t [.i k, x] :: enumD (k + 1) xs
theorem enumD_len : ∀ (xs : List Dt) (k : Int), (enumD k xs).length = xs.length
  | [], _ => rfl
  | _ :: xs, k => by simp [enumD, enumD_len xs]
theorem enumD_at : ∀ (xs : List Dt) (k : Int) (i : Nat), (enumD k xs)[i]? = xs[i]?.map fun x => .t [.i (k + i), x]
  | [], _, _ => by simp [enumD]
  | x :: xs, k, 0 => by simp [enumD]
  | x :: xs, k, i + 1 => by
    simp only [enumD, List.getElem?_cons_succ]
    rw [enumD_at xs (k + 1) i]
    congr 1
    funext y
    rw [show k + 1 + (i : Int) = k + ((i + 1 : Nat) : Int) by omega]
theorem src_enum {a : Addr} {us : List V} {xs : List Dt} (h : ∀ M1 H1, Fm M H M1 H1 → SqL K H1 a us) (c : CoL K M H us xs) : SrcOk K (Ite K a) M H (enumD 0 xs) :=
  src_walk (walk_enum (K := K) (a := a) (xs := us)) (by rw [c.len, enumD_len]) h fun i x v M1 H1 H2 hx f ht ⟨T, x1, y1, e1, hT, e2, e3, e4⟩ => by
    subst e1 e2
    simp only [Option.some.injEq] at e3
    subst e3
    rw [enumD_at, Option.map_eq_some_iff] at hx
    obtain ⟨d, hd, rfl⟩ := hx
    have := co_pair ht hT (.i ((0 : Int) + i)) ((c.fm f).at' hd e4)
    simpa using this
def zipD : List Dt → List Dt → List Dt
  | x :: xs, y :: ys => .t [x, y] :: zipD xs ys
  | _, _ => []
theorem zipD_len : ∀ (xs ys : List Dt), (zipD xs ys).length = min xs.length ys.length
  | [], ys => by simp [zipD]
  | _ :: _, [] => by simp [zipD]
  | x :: xs, y :: ys => by simp [zipD, zipD_len xs ys]
theorem zipD_at : ∀ (xs ys : List Dt) (i : Nat) (d : Dt), (zipD xs ys)[i]? = some d → ∃ x y, xs[i]? = some x ∧ ys[i]? = some y ∧ d = .t [x, y]
  | [], ys, i, d, h => by simp [zipD] at h
  | _ :: _, [], i, d, h => by simp [zipD] at h
  | x :: xs, y :: ys, 0, d, h => by
    simp [zipD] at h
    exact ⟨x, y, rfl, rfl, h.symm⟩
  | x :: xs, y :: ys, i + 1, d, h => by
    simp only [zipD, List.getElem?_cons_succ] at h ⊢
    exact zipD_at xs ys i d h
theorem src_zip {a b : Addr} {us ws : List V} {xs ys : List Dt} (h1 : Rd H a (.lst us)) (hn1 : ¬ M a) (c1 : CoL K M H us xs) (h2 : Rd H b (.lst ws)) (hn2 : ¬ M b) (c2 : CoL K M H ws ys) : SrcOk K (Itz K a b) M H (zipD xs ys) :=
  src_walk (walk_zip (K := K) (a := a) (b := b) (xs := us) (ys := ws) rfl) (by rw [c1.len, c2.len, zipD_len]) (fun M1 H1 f => ⟨.inl (f.rd h1 hn1), .inl (f.rd h2 hn2)⟩) fun i x v M1 H1 H2 hx f ht ⟨T, x1, y1, e1, hT, e2, e3, e4⟩ => by
    subst e1 e2
    obtain ⟨dx, dy, q1, q2, rfl⟩ := zipD_at _ _ _ _ hx
    exact co_pair ht hT ((c1.fm f).at' q1 e3) ((c2.fm f).at' q2 e4)
theorem walk_zipT {a b : Addr} {xs ys : List V} {n : Nat} (hn : n = min xs.length ys.length) : Walk (RZ.ItzT K a b) n (fun H => SqT K H a xs ∧ SqT K H b ys) (YPair (fun i => xs[i]?) (fun i => ys[i]?)) := by
  subst hn
  refine ⟨fun i _ hi q => ?_, fun _ q => ⟨xs, ys, q.1, q.2, by omega⟩, fun i H v H' _ q y => ?_⟩
  · have h1 : i < xs.length := by omega
    have h2 : i < ys.length := by omega
    exact ⟨xs, ys, xs[i], ys[i], q.1, q.2, by simp [h1], by simp [h2]⟩
  · obtain ⟨T, x, z, h1, h2, h3, h4, h5⟩ := y
    exact ⟨T, x, z, h1, h2, h3, h4 xs q.1, h5 ys q.2⟩
theorem src_zipT {a b : Addr} {us ws : List V} {xs ys : List Dt} (h1 : SqT K H a us) (c1 : CoL K M H us xs) (h2 : SqT K H b ws) (c2 : CoL K M H ws ys) : SrcOk K (RZ.ItzT K a b) M H (zipD xs ys) :=
  src_walk (walk_zipT (K := K) (a := a) (b := b) (xs := us) (ys := ws) rfl) (by rw [c1.len, c2.len, zipD_len]) (fun M1 H1 f => ⟨f.sqT h1, f.sqT h2⟩) fun i x v M1 H1 H2 hx f ht ⟨T, x1, y1, e1, hT, e2, e3, e4⟩ => by
    subst e1 e2
    obtain ⟨dx, dy, q1, q2, rfl⟩ := zipD_at _ _ _ _ hx
    exact co_pair ht hT ((c1.fm f).at' q1 e3) ((c2.fm f).at' q2 e4)
end
section
variable {X : Cx} {cl : Str → Addr} {W : WX} {K : PySem.W.Frag}
def rSeq (K : PySem.W.Frag) : List V → Hp → (It → Hp → Prop) → Prop := fun vs H R => ∃ a, vs = [.ref a] ∧ (((∃ xs, SqL K H a xs) ∧ R (Itl K a) H) ∨ ((∃ xs, SqT K H a xs) ∧ R (Itt K a) H))
def iSeq (K : PySem.W.Frag) (tl : TE) : TI := fun σ H R => tl σ H fun x H1 => rSeq K [x] H1 R
theorem pi_seq {tg l : Expr} {tl : TE} (hl : PE X l tl) : PI X tg l (iSeq X.K tl) := by
  refine ⟨fun pins s σ H R I h => ?_⟩
  refine thn (hl.run pins s σ H _ I h) fun v s1 ⟨x, H1, I1, r1, q1⟩ => ?_
  obtain ⟨a, e, q⟩ := q1
  have e : x = .ref a := by simpa using e
  subst e
  cases r1
  rcases q with ⟨⟨xs, hq⟩, q⟩ | ⟨⟨xs, hq⟩, q⟩
  · obtain ⟨its, rv, p, hz⟩ := I1.list hq
    refine wpAny_pyIter_list p.isList ?_
    refine ⟨s1.heap.objs.size, [s1.heap.objs.size], _, _, H1, rfl, I1.kept (t' := s1.toks) fun b o e => Heap.get?_push_of_some _ e, turn_list a _, ⟨_, Heap.get?_push_size _ rfl, rfl, rfl⟩, fun b hb => ?_, q⟩
    have e : b = s1.heap.objs.size := by simpa using hb
    subst e
    exact I1.fpOk (Nat.le_refl _) (I1.hok.fresh (Nat.le_refl _))
  · obtain ⟨its, rv, p, hz⟩ := I1.tuple hq
    refine wpAny_pyIter_tuple (show s1.heap.IsTuple a its.toArray from p) ?_
    refine ⟨s1.heap.objs.size, [s1.heap.objs.size], _, _, H1, rfl, I1.kept (t' := s1.toks) fun b o e => Heap.get?_push_of_some _ e, turn_tuple a _, ⟨_, Heap.get?_push_size _ rfl, rfl, rfl⟩, fun b hb => ?_, q⟩
    have e : b = s1.heap.objs.size := by simpa using hb
    subst e
    exact I1.fpOk (Nat.le_refl _) (I1.hok.fresh (Nat.le_refl _))
def sSq : List Dt → Option (List Dt)
  | [.l xs] => some xs
  | [.t xs] => some xs
  | [.z xs] => some xs
  | _ => none
theorem Co.lst' {M : Addr → Prop} {H : Hp} {v : V} {xs : List Dt} (c : Co K M H v (.l xs)) : ∃ a vs, v = .ref a ∧ H a = some (.lst vs) ∧ ¬ M a ∧ CoL K M H vs xs := by cases c with | l h n q => exact ⟨_, _, rfl, h, n, q⟩
theorem ps_seq : PrS K (rSeq K) sSq := fun M H vs xs ds R ht c hf k => by
  unfold sSq at hf
  split at hf
  · cases hf
    obtain ⟨v, rfl, c1⟩ := c.one
    obtain ⟨a, us, rfl, h1, hn, q1⟩ := c1.lst'
    exact ⟨a, rfl, .inl ⟨⟨us, .inl (.inl h1)⟩, k _ (src_list (fun M1 H1 f => .inl (f.rd (.inl h1) hn)) q1)⟩⟩
  · cases hf
    obtain ⟨v, rfl, c1⟩ := c.one
    obtain ⟨a, us, rfl, h1, q1⟩ := c1.tup
    exact ⟨a, rfl, .inr ⟨⟨us, h1⟩, k _ (src_tup h1 q1)⟩⟩
  · cases hf
    obtain ⟨v, rfl, c1⟩ := c.one
    obtain ⟨a, us, rfl, h1, q1⟩ := c1.frz
    exact ⟨a, rfl, .inl ⟨⟨us, h1.sq⟩, k _ (src_list (fun M1 H1 f => (f.sqF h1).sq) q1)⟩⟩
  · cases hf
theorem ji_seq {tg e : Expr} {a : Am} (h : JO X cl W e a) : JI X cl W tg e (mS sSq [a]) := fun tk => (pi_seq (h.pe tk)).yimp fun σ H R q => mS_ok ps_seq q
def sRng1 : List Dt → Option (List Dt) := fun xs => match xs with
  | [.i j] => if -(2 ^ 60) ≤ j ∧ j ≤ LIM then some (rngD 0 j.toNat) else none
  | _ => none
theorem ps_rg1 : PrS K (fun vs H R => ∃ j : Int, vs = [.int j] ∧ -(2 ^ 62) ≤ j ∧ j < 2 ^ 62 ∧ R (Itr 0 j.toNat) H) sRng1 := fun M H vs xs ds R ht c hf k => by
  unfold sRng1 at hf
  split at hf
  · split at hf
    · rename_i hj
      cases hf
      obtain ⟨v, rfl, c1⟩ := c.one
      have := hj.2
      simp only [LIM] at this
      exact ⟨_, by rw [c1.int], by omega, by omega, k _ (src_range ht)⟩
    · cases hf
  · cases hf
def sRng2 : List Dt → Option (List Dt) := fun xs => match xs with
  | [.i i, .i j] => if -(2 ^ 60) ≤ i ∧ i ≤ 2 ^ 60 ∧ -(2 ^ 60) ≤ j ∧ j ≤ 2 ^ 60 ∧ j - i ≤ LIM then some (rngD i (j - i).toNat) else none
  | _ => none
theorem ps_rg2 : PrS K (fun vs H R => ∃ i j : Int, vs = [.int i, .int j] ∧ (-(2 ^ 62) ≤ i ∧ i < 2 ^ 62 ∧ -(2 ^ 62) ≤ j ∧ j < 2 ^ 62) ∧ R (Itr i (j - i).toNat) H) sRng2 := fun M H vs xs ds R ht c hf k => by
  unfold sRng2 at hf
  split at hf
  · split at hf
    · rename_i hj
      cases hf
      obtain ⟨v, w, rfl, c1, c2⟩ := c.two
      exact ⟨_, _, by rw [c1.int, c2.int], ⟨by omega, by omega, by omega, by omega⟩, k _ (src_range ht)⟩
    · cases hf
  · cases hf
/-- range(a, b, -1) -/
def sRng3 : List Dt → Option (List Dt) := fun xs => match xs with
  | [.i i, .i j, .i c] => if c = -1 ∧ -(2 ^ 60) ≤ i ∧ i ≤ 2 ^ 60 ∧ -(2 ^ 60) ≤ j ∧ j ≤ 2 ^ 60 ∧ i - j ≤ LIM then some (rngC i (-1) (i - j).toNat) else none
  | _ => none
theorem ji_rng1 {tg a : Expr} {A : Am} {p pos : Pos} (hg : Gl X "range") (hm : X.mg "range" = none) (ha : JO X cl W a A) (hs : starEach [a] X.env = [(false, eval a X.env)] := by rfl) : JI X cl W tg (.Call (.Name "range" p) [a] [] pos) (mS sRng1 [A]) := fun tk =>
  (pi_range1 hg hm ((ja_c ha ja_n hs).pa tk) hs).yimp fun σ H R q => mS_ok ps_rg1 q
theorem ji_rng2 {tg a b : Expr} {A B : Am} {p pos : Pos} (hg : Gl X "range") (hm : X.mg "range" = none) (ha : JO X cl W a A) (hb : JO X cl W b B) (hs : starEach [a, b] X.env = [(false, eval a X.env), (false, eval b X.env)] := by rfl) (hs2 : starEach [b] X.env = [(false, eval b X.env)] := by rfl)
    (hs3 : starEach (a :: [b]) X.env = (false, eval a X.env) :: starEach [b] X.env := by rfl) : JI X cl W tg (.Call (.Name "range" p) [a, b] [] pos) (mS sRng2 [A, B]) := fun tk =>
  (pi_range2 hg hm ((ja_c ha (ja_c hb ja_n hs2) hs3).pa tk) hs hs2).yimp fun σ H R q => mS_ok ps_rg2 q
def sEnum : List Dt → Option (List Dt)
  | [.l xs] => some (enumD 0 xs)
  | [.z xs] => some (enumD 0 xs)
  | [.t xs] => some (enumD 0 xs)
  | _ => none
theorem walk_enumT {a : Addr} {us : List V} : Walk (IteT K a) us.length (fun H => SqT K H a us) (YPair (fun i => some (.int (i : Nat))) (fun i => us[i]?)) := by
  refine ⟨fun i _ hi q => ⟨us, us[i], q, by simp [hi]⟩, fun _ q => ⟨us, q, Nat.le_refl _⟩, fun i H v H' _ q ⟨T, x, h1, h2, h3, h4⟩ => ⟨T, .int (i : Nat), x, h1, h2, h3, rfl, h4 us q⟩⟩
theorem src_enumT {a : Addr} {us : List V} {xs : List Dt} (h : SqT K H a us) (c : CoL K M H us xs) : SrcOk K (IteT K a) M H (enumD 0 xs) :=
  src_walk (walk_enumT (K := K) (a := a) (us := us)) (by rw [c.len, enumD_len]) (fun M1 H1 f => f.sqT h) fun i x v M1 H1 H2 hx f ht ⟨T, x1, y1, e1, hT, e2, e3, e4⟩ => by
    subst e1 e2
    simp only [Option.some.injEq] at e3
    subst e3
    rw [enumD_at, Option.map_eq_some_iff] at hx
    obtain ⟨d, hd, rfl⟩ := hx
    have := co_pair ht hT (.i ((0 : Int) + i)) ((c.fm f).at' hd e4)
    simpa using this
theorem ps_enum : PrS K (fun vs H R => ∃ a xs, vs = [.ref a] ∧ ((SqL K H a xs ∧ R (Ite K a) H) ∨ (SqT K H a xs ∧ R (IteT K a) H))) sEnum := fun M H vs xs ds R ht c hf k => by
  unfold sEnum at hf
  split at hf
  · cases hf
    obtain ⟨v, rfl, c1⟩ := c.one
    obtain ⟨a, us, rfl, h1, hn, q1⟩ := c1.lst'
    exact ⟨a, us, rfl, .inl ⟨.inl (.inl h1), k _ (src_enum (fun M1 H1 f => .inl (f.rd (.inl h1) hn)) q1)⟩⟩
  · cases hf
    obtain ⟨v, rfl, c1⟩ := c.one
    obtain ⟨a, us, rfl, h1, q1⟩ := c1.frz
    exact ⟨a, us, rfl, .inl ⟨h1.sq, k _ (src_enum (fun M1 H1 f => (f.sqF h1).sq) q1)⟩⟩
  · cases hf
    obtain ⟨v, rfl, c1⟩ := c.one
    obtain ⟨a, us, rfl, h1, q1⟩ := c1.tup
    exact ⟨a, us, rfl, .inr ⟨h1, k _ (src_enumT h1 q1)⟩⟩
  · cases hf
theorem pi_enumA {e : Expr} {ta : TA} {p pos tpos : Pos} {elts : List Expr} {kk : Nat} (hg : Gl X "enumerate") (hm : X.mg "enumerate" = none) (ha : PA X [e] ta) (hs : starEach [e] X.env = [(false, eval e X.env)] := by rfl) : PI X (.Tuple elts kk tpos) (.Call (.Name "enumerate" p) [e] [] pos) (iEnumA X.K ta) :=
  ⟨fun pins s σ H R I h => Call_ (ld_blt I hg hm boot_enumerate (PyProof.Rows.callWith_type1 (thn (ha.run pos pins s σ H _ I h) fun us s1 ⟨vs, H1, I1, r1, a, xs, ex, z⟩ => by
    rcases z with ⟨hq, q⟩ | ⟨hq, q⟩
    · exact enumL_go I1 r1 ex hq q
    · exact enumT_go I1 r1 ex hq q) hs rfl))⟩
theorem ji_enum {a : Expr} {A : Am} {p pos tpos : Pos} {elts : List Expr} {kk : Nat} (hg : Gl X "enumerate") (hm : X.mg "enumerate" = none) (ha : JO X cl W a A) (hs : starEach [a] X.env = [(false, eval a X.env)] := by rfl) : JI X cl W (.Tuple elts kk tpos) (.Call (.Name "enumerate" p) [a] [] pos) (mS sEnum [A]) := fun tk =>
  (pi_enumA hg hm ((ja_c ha ja_n hs).pa tk) hs).yimp fun σ H R q => mS_ok ps_enum q
def sZip : List Dt → Option (List Dt)
  | [.l xs, .l ys] => some (zipD xs ys)
  | [.t xs, .t ys] => some (zipD xs ys)
  | _ => none
theorem ps_zip : PrS K (fun vs H R => ∃ a b xs ys, vs = [.ref a, .ref b] ∧ ((SqL K H a xs ∧ SqL K H b ys ∧ R (Itz K a b) H) ∨ (SqT K H a xs ∧ SqT K H b ys ∧ R (RZ.ItzT K a b) H))) sZip := fun M H vs xs ds R ht c hf k => by
  unfold sZip at hf
  split at hf
  · cases hf
    obtain ⟨v, w, rfl, c1, c2⟩ := c.two
    obtain ⟨a, us, rfl, h1, hn, q1⟩ := c1.lst'
    obtain ⟨b, ws, rfl, h2, hn2, q2⟩ := c2.lst'
    exact ⟨a, b, us, ws, rfl, .inl ⟨.inl (.inl h1), .inl (.inl h2), k _ (src_zip (.inl h1) hn q1 (.inl h2) hn2 q2)⟩⟩
  · cases hf
    obtain ⟨v, w, rfl, c1, c2⟩ := c.two
    obtain ⟨a, us, rfl, h1, q1⟩ := c1.tup
    obtain ⟨b, ws, rfl, h2, q2⟩ := c2.tup
    exact ⟨a, b, us, ws, rfl, .inr ⟨h1, h2, k _ (src_zipT h1 q1 h2 q2)⟩⟩
  · cases hf
theorem ji_zip {a b : Expr} {A B : Am} {p pos tpos : Pos} {elts : List Expr} {kk : Nat} (hg : Gl X "zip") (hm : X.mg "zip" = none) (ha : JO X cl W a A) (hb : JO X cl W b B) (hs : starEach [a, b] X.env = (false, eval a X.env) :: starEach [b] X.env := by rfl) (hs2 : starEach [b] X.env = (false, eval b X.env) :: starEach [] X.env := by rfl)
    (hpl : (backTo pos (starEach [b] X.env)).any (·.1) = false := by rfl) : JI X cl W (.Tuple elts kk tpos) (.Call (.Name "zip" p) [a, b] [] pos) (mS sZip [A, B]) := fun tk =>
  (RZ.pi_zipA hg hm ((ja_c ha (ja_c hb ja_n hs2) hs).pa tk) hs hpl).yimp fun σ H R q => mS_ok ps_zip q
end
end Y
namespace Y
open PySem L2 PyProof.Rows PySem.W PySem.Calls
section
variable {prog : Program} {w : World} {A : Around} {E : Value → Shared → Prop} {s : Shared}
theorem collect_at {Q : List Value → Shared → Prop} (it : Addr) {T : String} {o : Obj} {items : Array Value} {n : Nat} (hT : T = "list" ∨ T = "tuple") (ho : s.heap.get? it = some o) (hc : o.cls = .type T) (hd : o.data = .seq items n)
    (hQ : ∀ h', (∀ b o', s.heap.get? b = some o' → h'.get? b = some o') → s.heap.objs.size ≤ h'.objs.size → Q items.toList { s with heap := h' }) (hsz : items.size ≤ sizeLine) : wpAny (model prog w) A (collect (.ref it)) Q E s := by
  unfold collect
  refine wpAny_bind (wpAny_runValue (codeAny_builtin F.entry_proto_collect ?_))
  rw [Around.under_plainId F.plain_proto_collect _]
  show wpAny _ A.in1 (newList [] >>= fun l => again (.builtin "list.__iadd__" ⟨[l, .ref it], []⟩)) _ _ s
  refine wpAny_bind (wpAny_newObj_type ?_)
  refine wpAny_pure ⟨plainId_quiet F.plain_list_iadd _, codeAny_builtin F.entry_list_iadd ?_⟩
  rw [Around.under_plainId F.plain_list_iadd _]
  show wpAny _ A.in1 (Builtin.List.listExtendWith (.ref s.heap.objs.size) (.ref it) (.ref s.heap.objs.size)) _ _ _
  have hS : (s.heap.push { cls := .type "list", data := .seq ([] : List Value).toArray }).get? s.heap.objs.size = some { cls := .type "list", data := .seq #[] 0 } := Heap.get?_push_size _ rfl
  have hS₂ := Heap.get?_update_self (Obj.mapSeq (· ++ items)) hS rfl
  have fin' : wpAny (model prog w) A (match Value.ref s.heap.objs.size with
      | Value.ref a => do
        match (← load a).data with
          | Data.seq xs _ => pure xs.toList
          | _ => unsupported "internal:collect"
      | _ => unsupported "internal:collect") Q E { s with heap := (s.heap.push { cls := .type "list", data := .seq ([] : List Value).toArray }).update s.heap.objs.size (Obj.mapSeq (· ++ items)) } := by
    show wpAny _ A (load s.heap.objs.size >>= _) _ _ _
    refine wpAny_bind (wpAny_load hS₂ ?_)
    refine wpAny_pure ?_
    have e : ((#[] : Array Value) ++ items).toList = items.toList := by simp
    show Q ((#[] : Array Value) ++ items).toList _
    rw [e]
    refine hQ _ (fun b o' hb => ?_) ?_
    · exact (Heap.get?_update_other _ _ (Nat.ne_of_gt (Heap.lt_size hb))).trans (Heap.get?_push_of_some _ hb)
    · rw [Heap.size_update, Heap.size_push]; exact Nat.le_succ _
  refine wpAny_mono (wpAny_extend_seq (hsz := hsz) (A := A) (R := fun r s' => r = .ok (.ret (.ref s.heap.objs.size)) ∧ s' = { s with heap := (s.heap.push { cls := .type "list", data := .seq ([] : List Value).toArray }).update s.heap.objs.size (Obj.mapSeq (· ++ items)) })
    (s := { s with heap := s.heap.push { cls := .type "list", data := .seq ([] : List Value).toArray } }) _ it _ 0 hT hS (Heap.get?_push_of_some _ ho) hc hd ⟨rfl, rfl⟩) (fun fin s' h => ?_) (fun e s' h => ?_)
  · cases fin with
    | done f =>
      obtain ⟨e, rfl⟩ := h
      cases e
      exact fin'
    | again c' => exact ⟨h.1, codeAny_mono h.2 fun r s'' hr => by obtain ⟨rfl, rfl⟩ := hr; exact fin'⟩
  · exact absurd h.1 (by simp)
/-- sorted(x), x a list or a tuple of alike data -/
theorem sorted_seqD {β : Type} {enc : β → PyData} {R : Value → β → Prop} {bs : List β} {l : Addr} {T : String} {o : Obj} {vs : List Value} {n : Nat} {Q : Value → Shared → Prop} (hT : T = "list" ∨ T = "tuple") (ho : s.heap.get? l = some o) (hc : o.cls = .type T) (hd : o.data = .seq vs.toArray n)
    (e : EachIs R vs bs) (er : EachIs (fun v b => ∃ as, Reads s.heap v (enc b) as) vs bs) (hal : AllAlike (bs.map enc)) (hk : Sortable (bs.map enc)) (hL : bs.length ≤ sizeLine) (hu : ∀ b, b ∈ bs → A.units + 2 + (enc b).depth < cLine)
    (h : ∀ h' out, (∀ b u, s.heap.get? b = some u → h'.get? b = some u) → out.length = bs.length → EachIs R out (bs.mergeSort (dataLe false enc)) → ∀ a ep, s.heap.objs.size ≤ a → h'.get? a = some (seqObj "list" (List.toArray out) ep) → Q (.ref a) { s with heap := h' }) :
    wpAny (model prog w) A (call (.builtin "sorted") [.ref l]) Q E s := by
  have hL' : vs.length ≤ sizeLine := by rw [e.length]; exact hL
  refine call_function_entry_kw kind_sorted plain_sorted entry_sorted (args_sorted1 _) ?_
  unfold Builtin.«sorted»
  refine wpAny_bind (m := checkCount "sorted" 1 1 _) (wpAny_pure ?_)
  refine wpAny_bind (collect_at l hT ho hc hd (fun h1 hk1 hz1 => ?_) (by rw [List.size_toArray]; exact hL'))
  refine wpAny_bind (wpAny_newList ?_ (by simpa using hL'))
  have at2 : (h1.push (seqObj "list" vs.toArray 0)).get? h1.objs.size = some (seqObj "list" vs.toArray 0) := Heap.get?_push_size _ rfl
  show wpAny _ _ _ _ _ { s with heap := h1.push (seqObj "list" vs.toArray 0) }
  have old2 : ∀ b u, s.heap.get? b = some u → b ≠ h1.objs.size ∧ (h1.push (seqObj "list" vs.toArray 0)).get? b = some u := fun b u q => ⟨Nat.ne_of_lt (Heap.lt_size (hk1 b u q)), Heap.get?_push_of_some _ (hk1 b u q)⟩
  refine wpAny_bind (wpAny_holding (wpAny_call_entry_kw slot_list_sort ⟨_, at2, rfl⟩ entry_list_sort ?body (args_list_sort _)))
  case body =>
    show wpAny (model prog w) A.in1.in1 (Builtin.«list.sort» ⟨[.ref h1.objs.size], []⟩) _ _ _
    have er' : EachIs (fun v b => ∃ as, Reads (sortingHeap (h1.push (seqObj "list" vs.toArray 0)) h1.objs.size vs) v (enc b) as) vs bs := er.mono fun _ _ ⟨as, r⟩ => ⟨as, PyProof.Rows.Reads.keeps (fun b u q => sortingHeap_old (old2 b u q).1 (old2 b u q).2) r⟩
    refine list_sort_vals (s := { s with heap := h1.push (seqObj "list" vs.toArray 0) }) (κ := dataKind (sortingHeap (h1.push (seqObj "list" vs.toArray 0)) h1.objs.size vs) (bs.map enc)) at2 (SortsAt.data (s := { s with heap := sortingHeap (h1.push (seqObj "list" vs.toArray 0)) h1.objs.size vs }) (each_map (R := fun v d => ∃ as, Reads (sortingHeap (h1.push (seqObj "list" vs.toArray 0)) h1.objs.size vs) v d as) enc er') hal hk (bound_map hu)) hL' ?_
    obtain ⟨ep, he⟩ := PyProof.Rows.sortedHeap_at (vs := vs) (out := (sortVals (dataKind (sortingHeap (h1.push (seqObj "list" vs.toArray 0)) h1.objs.size vs) (bs.map enc)) false vs vs).toArray) at2
    refine ⟨_, rfl, wpAny_pure ⟨_, rfl, ?_⟩⟩
    refine h _ _ (fun b u q => ?_) (by rw [sortVals_length false rfl]; exact e.length) (sortVals_data false e er' hal) _ ep ?_ he
    · have q2 := old2 b u q
      rw [PyProof.Rows.sortedHeap_old q2.1 (Heap.lt_size q2.2)]; exact q2.2
    · exact hz1
end
section
variable {X : Cx} {K : PySem.W.Frag} {M M' : Addr → Prop} {H H' : Hp}
def encD (b : V × Dt) : PyData := toP b.2
noncomputable def rSortD (K : PySem.W.Frag) : List V → Hp → VK → Prop := fun vs H Q => ∃ (a : Addr) (bs : List (V × Dt)), vs = [V.ref a] ∧ (SqL K H a (bs.map (·.1)) ∨ SqT K H a (bs.map (·.1))) ∧ (∀ b ∈ bs, Dp K H b.1 (toP b.2)) ∧ AllAlike (bs.map encD) ∧ Sortable (bs.map encD) ∧ (∀ b ∈ bs, (toP b.2).depth ≤ 50) ∧ bs.length ≤ sizeLine ∧
  ∀ p, H p = none → Q (.ref p) (upd H p (.lst ((bs.mergeSort (dataLe false encD)).map (·.1))))
theorem vals_each {pins : List (Addr × Obj)} {σ : L2.St} {s : Shared} (I : Inv X pins σ H s) : ∀ {bs : List (V × Dt)} {its : List Value}, Vals (bs.map (·.1)) its → (∀ b ∈ bs, Dp X.K H b.1 (toP b.2)) → EachIs (fun u b => ∃ as, Reads s.heap u (encD b) as) its bs ∧ EachIs (fun u b => RelV b.1 u) its bs
  | [], _, .nil, _ => ⟨.nil, .nil⟩
  | b :: bs, _, .cons r t, h => by
    obtain ⟨h1, h2⟩ := vals_each I t fun c hc => h c (List.mem_cons_of_mem _ hc)
    obtain ⟨as, ha⟩ := Dp.reads I _ _ _ (h b List.mem_cons_self) r
    exact ⟨.cons ⟨as, ha⟩ h1, .cons r h2⟩
theorem each_vals : ∀ {bs : List (V × Dt)} {its : List Value}, EachIs (fun u (b : V × Dt) => RelV b.1 u) its bs → Vals (bs.map (·.1)) its
  | _, _, .nil => .nil
  | _, _, .cons r t => .cons r (each_vals t)
theorem cr_sortD (hu : X.A.units + 64 < cLine) : CallR X (.builtin "sorted") (rSortD X.K) := by
  intro pins s σ H xs us Q I r h
  obtain ⟨a, bs, rfl, hs, hd, hal, hk, hdp, hL, q⟩ := h
  rw [Vals.ref1 r]
  have go : ∀ {T : String} {o : Obj} {its : List Value} {n : Nat}, T = "list" ∨ T = "tuple" → s.heap.get? a = some o → o.cls = .type T → o.data = .seq its.toArray n → Vals (bs.map (·.1)) its → wpAny (model X.prog X.w) X.A (call (.builtin "sorted") [.ref a]) (EP X pins σ Q) X.xe s := fun {T o its n} hT ho hc hdt rv => by
    obtain ⟨e1, e2⟩ := vals_each I rv hd
    refine sorted_seqD (enc := encD) hT ho hc hdt e2 e1 hal hk hL (fun b hb => by have : (encD b).depth ≤ 50 := hdp b hb; omega) fun h' out kp hlen hout p ep hp hat => ?_
    have vv := each_vals hout
    have hlen' : ((bs.mergeSort (dataLe false encD)).map (·.1)).length ≤ sizeLine := by rw [List.length_map, List.length_mergeSort]; exact hL
    exact ⟨.ref p, upd H p (.lst ((bs.mergeSort (dataLe false encD)).map (·.1))), I.laid (t' := s.toks) kp hp ⟨hlen', out, ep, vv, hat⟩, rfl, q p (I.hok.fresh hp)⟩
  rcases hs with hs | hs
  · obtain ⟨its, rv, ⟨⟨cls, dd, data, sl⟩, n, ho, hc, hdn, hd'⟩, hlen⟩ := I.list hs
    exact go (.inl rfl) ho hc hd' rv
  · obtain ⟨its, rv, ⟨⟨cls, dd, data, sl⟩, ho, hc, n, hd'⟩, hlen⟩ := I.tuple hs
    exact go (.inr rfl) ho hc hd' rv
/-- the order of data -/
noncomputable def leD (x y : Dt) : Bool := dataLe false toP x y
noncomputable def sortD (xs : List Dt) : List Dt := xs.mergeSort leD
def alikeL (ds : List PyData) : Bool := ds.all fun d => ds.all fun d' => alike d d'
theorem alikeL_ok {ds : List PyData} (h : alikeL ds = true) : AllAlike ds := fun d hd d' hd' => by
  simp only [alikeL, List.all_eq_true] at h
  exact h d hd d' hd'
def tupHd : PyData → Bool
  | .tuple (_ :: _) => true
  | _ => false
def noTup : PyData → Bool
  | .tuple _ => false
  | .none => false
  | _ => true
def sortable (ds : List PyData) : Bool := ds.all tupHd || ds.all noTup
theorem sortable_ok {ds : List PyData} (h : sortable ds = true) : Sortable ds := by
  simp only [sortable, Bool.or_eq_true, List.all_eq_true] at h
  rcases h with h | h
  · refine .inl fun d hd => ?_
    have := h d hd
    unfold tupHd at this
    split at this
    · exact ⟨_, _, rfl⟩
    · cases this
  · refine .inr fun d hd => ?_
    have := h d hd
    constructor
    · intro z; subst z; simp [noTup] at this
    · intro xs z; subst z; simp [noTup] at this
def okSort (xs : List Dt) : Bool := alikeL (xs.map toP) && sortable (xs.map toP) && xs.all (fun x => decide ((toP x).depth ≤ 50)) && decide (xs.length ≤ LIM)
noncomputable def fSorted : List Dt → Option Vl
  | [.l xs] => if okSort xs then some (.l (sortD xs), .t) else none
  | [.t xs] => if okSort xs then some (.l (sortD xs), .t) else none
  | [.z xs] => if okSort xs then some (.l (sortD xs), .t) else none
  | _ => none
theorem CoL.zip {vs : List V} {xs : List Dt} (c : CoL K M H vs xs) : (vs.zip xs).map (·.1) = vs ∧ (vs.zip xs).map (·.2) = xs ∧ ∀ b ∈ vs.zip xs, Co K M H b.1 b.2 := by
  induction c using CoL.rec (motive_1 := fun _ _ _ => True) with
  | nil => exact ⟨rfl, rfl, fun _ z => nomatch z⟩
  | cons h q _ ih =>
    obtain ⟨h1, h2, h3⟩ := ih
    refine ⟨by simp [h1], by simp [h2], fun b hb => ?_⟩
    rcases List.mem_cons.mp hb with e | hb
    · subst e; exact h
    · exact h3 b hb
  | _ => trivial
theorem CoL.of_pairs : ∀ {bs : List (V × Dt)}, (∀ b ∈ bs, Co K M H b.1 b.2) → CoL K M H (bs.map (·.1)) (bs.map (·.2))
  | [], _ => .nil
  | b :: bs, h => .cons (h b List.mem_cons_self) (CoL.of_pairs fun c hc => h c (List.mem_cons_of_mem _ hc))
theorem sort_fin {a : Addr} {us : List V} {xs : List Dt} {Q : VK} (ht : Hotty M H) (hs : SqL K H a us ∨ SqT K H a us) (c : CoL K M H us xs) (hok : okSort xs = true) (k : ∀ v H' F, Mk K H M v (.l (sortD xs)) .t H' F → Q v H') : rSortD K [.ref a] H Q := by
  simp only [okSort, Bool.and_eq_true, List.all_eq_true, decide_eq_true_eq] at hok
  obtain ⟨⟨⟨o1, o2⟩, o3⟩, o4⟩ := hok
  obtain ⟨z1, z2, z3⟩ := c.zip
  have e : (us.zip xs).map encD = xs.map toP := by
    have : (us.zip xs).map encD = ((us.zip xs).map (·.2)).map toP := by rw [List.map_map]; rfl
    rw [this, z2]
  have es : ((us.zip xs).mergeSort (dataLe false encD)).map (·.2) = sortD xs := by
    have := List.map_mergeSort (f := fun (x : V × Dt) => x.2) (r := dataLe false encD) (s := leD) (l := us.zip xs) (fun a _ b _ => rfl)
    rw [this, z2]; rfl
  refine ⟨a, us.zip xs, rfl, by rw [z1]; exact hs, fun b hb => (z3 b hb).dp (nob_dep _ (by have := o3 b.2 (by rw [← z2]; exact List.mem_map_of_mem hb); omega)), by rw [e]; exact alikeL_ok o1, by rw [e]; exact sortable_ok o2, fun b hb => o3 b.2 (by rw [← z2]; exact List.mem_map_of_mem hb), ?_, fun p hp => ?_⟩
  · have : (us.zip xs).length = xs.length := by
      have := congrArg List.length z2
      simpa using this
    rw [this]; exact lim_size o4
  · have c2 : CoL K M H (((us.zip xs).mergeSort (dataLe false encD)).map (·.1)) (((us.zip xs).mergeSort (dataLe false encD)).map (·.2)) := CoL.of_pairs fun b hb => z3 b (List.mem_mergeSort.mp hb)
    rw [es] at c2
    exact k _ _ _ (mk_lst ht hp c2)
theorem pr_sorted : Pr K (rSortD K) fSorted := fun M H vs xs x m Q ht c hf k => by
  unfold fSorted at hf
  split at hf
  · split at hf
    · rename_i h
      cases hf
      obtain ⟨v, rfl, c1⟩ := c.one
      obtain ⟨a, us, rfl, h1, q1⟩ := c1.lst
      exact sort_fin ht (.inl (.inl (.inl h1))) q1 h k
    · cases hf
  · split at hf
    · rename_i h
      cases hf
      obtain ⟨v, rfl, c1⟩ := c.one
      obtain ⟨a, us, rfl, h1, q1⟩ := c1.tup
      exact sort_fin ht (.inr h1) q1 h k
    · cases hf
  · split at hf
    · rename_i h
      cases hf
      obtain ⟨v, rfl, c1⟩ := c.one
      obtain ⟨a, us, rfl, h1, q1⟩ := c1.frz
      exact sort_fin ht (.inl (h1.sq)) q1 h k
    · cases hf
  · cases hf
end
end Y
namespace Y
open PySem L2 PyProof.Rows
section
variable {K : PySem.W.Frag} {cl : Str → Addr} {W : WX} {io : Bool} {M M' M0 : Addr → Prop} {H H' H0 : Hp} {G G' G0 : Nat → List Addr} {r r' : Ev} {σ σ0 : L2.St}
def mCM (fn : Fn) (f : Ev → Ou Vl) (as : List Am) : Ev → Ou Vl := fun r => match f r with
  | .ok xm r1 => match evA as r1 with
    | .ok ys r2 => match look r2 ys with
      | some xs => match fn (xm :: cold xs) with
        | .rt (x, m) z => .ok (x, m) (if zfl (x, m) && zfl z then r2 else frz ys r2)
        | .ex c fs z => if flatF fs && zfl z then .ex c fs r2 else .no
        | .no => .no
      | none => .no
    | .ex c fs r2 => .ex c fs r2
    | .no => .no
  | .ex c fs r1 => .ex c fs r1
  | .no => .no
theorem ER.snoc {v : V} {x : Dt} {m : Md} {F : List Addr} (e : ER K r σ G M H) (rp : Rp K M H m v x F) (nd : F.Nodup) (k : ∀ b ∈ F, M b ∧ ∀ i, b ∉ G i) :
    ER K (r ++ [some (x, m)]) (σ ++ [some v]) (fun j => if j = r.length then F else G j) M H := by
  have h0 : ER K (r ++ [none]) (σ ++ [none]) G M H := e.pad 1
  have hl : r.length < (σ ++ [none]).length := by simp [e.len]
  have := h0.put (i := r.length) rp nd k hl
  have e1 : (r ++ [none]).set r.length (some (x, m)) = r ++ [some (x, m)] := by
    rw [List.set_append_right _ _ (Nat.le_refl _)]; simp
  have e2 : (σ ++ [(none : Option V)]).set r.length (some v) = σ ++ [some v] := by
    rw [e.len, List.set_append_right _ _ (Nat.le_refl _)]; simp
  rw [e1, e2] at this
  exact this
def pick {α : Type} (p : List Nat) (d : α) (xs : List α) : List α := p.map fun i => xs.getD i d
end
section
variable {X : Cx} {cl : Str → Addr} {W : WX} {K : PySem.W.Frag} {io : Bool}
def mCK (fn : Fn) (p : List Nat) (as : List Am) : Ev → Ou Vl := mC (fun xs => fn (pick p (.n, .c) xs)) as
theorem js_par2 {i j : Nat} {x y : Str} {a b : Expr} {f g : Ev → Ou Vl} {px py pt pos : Pos} {kt k2 pt2} (hc : X.calm = true) (hN : X.N.Nodup) (hi : X.N[i]? = some x) (hj : X.N[j]? = some y) (hij : i ≠ j)
    (hx : X.env.scope.names.lookup x = some .local) (hy : X.env.scope.names.lookup y = some .local) (hio : io = true → 0 ∉ [i, j]) (ha : JE X cl W a f) (hb : JE X cl W b g) (hw : swappedStores [.Tuple [.Name x px, .Name y py] kt pt] (.Tuple [a, b] k2 pt2) X.env = pure (some [x, y]))
    (hs1 : starEach [a, b] X.env = (false, eval a X.env) :: starEach [b] X.env := by rfl) (hs2 : starEach [b] X.env = (false, eval b X.env) :: starEach [] X.env := by rfl)
    (hs : swapsWithSole [.Tuple [.Name x px, .Name y py] kt pt] (.Tuple [a, b] k2 pt2) pos.line X.env = pure false := by rfl) : JS X cl W io (.Assign [.Tuple [.Name x px, .Name y py] kt pt] (.Tuple [a, b] k2 pt2) pos) (sPar [i, j] [f, g]) := fun tk =>
  (ps_par hc hN hi hj hij hx hy ((ja_c (jo_e ha) (ja_c (jo_e hb) ja_n hs2) hs1).pa tk) hw hs).yimp fun D σ H q => by
    have := par_go (is := [i, j]) (fs := [f, g]) hio q
    have mono2 : ∀ {as : List Am} {H : Hp} {Q Q' : List V → Hp → Prop}, tOs X.K cl W as σ H Q → (∀ v H, Q v H → Q' v H) → tOs X.K cl W as σ H Q' := tOs_mono
    refine mono2 this fun vs H1 ⟨h1, h2, _⟩ => ?_
    match vs, h1 with
    | [v, w], _ => exact ⟨v, w, rfl, h2⟩
where tOs_mono {K : PySem.W.Frag} {cl : Str → Addr} {W : WX} {σ : L2.St} : ∀ {as : List Am} {H : Hp} {Q Q' : List V → Hp → Prop}, tOs K cl W as σ H Q → (∀ v H, Q v H → Q' v H) → tOs K cl W as σ H Q'
  | [], _, _, _, h, i => i _ _ h
  | .v j :: as, H, Q, Q', ⟨v, hv, h⟩, i => ⟨v, hv, tOs_mono (as := as) h fun vs H h => i _ _ h⟩
  | .e f :: as, H, Q, Q', h, i => by
    obtain ⟨r, M, G, e, h⟩ := h
    refine ⟨r, M, G, e, ?_⟩
    cases hf : f r with
    | no => rw [hf] at h; exact h
    | ex c fs r1 => rw [hf] at h; exact h
    | ok xm r1 =>
      obtain ⟨x, m⟩ := xm
      rw [hf] at h
      exact fun v H' M' G' F p => tOs_mono (as := as) (h v H' M' G' F p) fun vs H h => i _ _ h
theorem js_par3 {i j l : Nat} {x y z : Str} {a b c : Expr} {f g h : Ev → Ou Vl} {px py pz pt pos : Pos} {kt k2 pt2} (hc : X.calm = true) (hN : X.N.Nodup) (hi : X.N[i]? = some x) (hj : X.N[j]? = some y) (hl : X.N[l]? = some z) (hij : i ≠ j) (hil : i ≠ l) (hjl : j ≠ l)
    (hx : X.env.scope.names.lookup x = some .local) (hy : X.env.scope.names.lookup y = some .local) (hz : X.env.scope.names.lookup z = some .local) (hio : io = true → 0 ∉ [i, j, l]) (ha : JE X cl W a f) (hb : JE X cl W b g) (hcc : JE X cl W c h)
    (hw : swappedStores [.Tuple [.Name x px, .Name y py, .Name z pz] kt pt] (.Tuple [a, b, c] k2 pt2) X.env = pure (some [x, y, z]))
    (hs1 : starEach [a, b, c] X.env = (false, eval a X.env) :: starEach [b, c] X.env := by rfl) (hs2 : starEach [b, c] X.env = (false, eval b X.env) :: starEach [c] X.env := by rfl) (hs3 : starEach [c] X.env = (false, eval c X.env) :: starEach [] X.env := by rfl)
    (hs : swapsWithSole [.Tuple [.Name x px, .Name y py, .Name z pz] kt pt] (.Tuple [a, b, c] k2 pt2) pos.line X.env = pure false := by rfl) : JS X cl W io (.Assign [.Tuple [.Name x px, .Name y py, .Name z pz] kt pt] (.Tuple [a, b, c] k2 pt2) pos) (sPar [i, j, l] [f, g, h]) := fun tk =>
  (ps_par3 hc hN hi hj hl hij hil hjl hx hy hz ((ja_c (jo_e ha) (ja_c (jo_e hb) (ja_c (jo_e hcc) ja_n hs3) hs2) hs1).pa tk) hw hs).yimp fun D σ H q => by
    have := par_go (is := [i, j, l]) (fs := [f, g, h]) hio q
    refine js_par2.tOs_mono this fun vs H1 ⟨h1, h2, _⟩ => ?_
    match vs, h1 with
    | [u, v, w], _ => exact ⟨u, v, w, rfl, h2⟩
end
end Y
namespace Y
open PySem L2 PyProof.Rows
theorem tup_once (l : Addr) (items : Array Value) (n : Nat) (dd : Option Addr) (sl : Array (Option Value)) (u : Tok) :
    Meets (Builtin.«tuple.__mul__» ⟨[.ref l, .int 1 u], []⟩) (fun _ R s => s.heap.get? l = some { cls := .type "tuple", dict := dd, data := .seq items n, slots := sl } ∧ R (.ok (.ret (Value.ref l))) s) :=
  .of_wp fun prog w A R s h => by
    obtain ⟨hp, g, d, tk, os⟩ := s
    obtain ⟨hl, h⟩ := h
    have f1 := AutoSeq1.idx_int
    have c1 : (items.isEmpty || (1 : Int) == 1) = true := by simp
    wp_walk using wpAny_loadPart' hl
    exact ⟨_, rfl, h⟩
theorem tup_none (l : Addr) (items : Array Value) (n : Nat) (dd : Option Addr) (sl : Array (Option Value)) (x : Int) (u : Tok) (c0 : (decide (x < -(2 ^ 63)) || decide (x ≥ 2 ^ 63)) = false) (c1 : (items.isEmpty || x == 1) = false) (c2 : (decide (x ≤ 0) || items.isEmpty) = true) :
    Meets (Builtin.«tuple.__mul__» ⟨[.ref l, .int x u], []⟩) (fun _ R s => s.heap.get? l = some { cls := .type "tuple", dict := dd, data := .seq items n, slots := sl } ∧
      R (.ok (.ret (Value.ref s.heap.objs.size))) { s with heap := s.heap.push { cls := Value.type "tuple", data := Data.seq #[] } }) :=
  .of_wp fun prog w A R s h => by
    obtain ⟨hp, g, d, tk, os⟩ := s
    obtain ⟨hl, h⟩ := h
    have f1 := AutoSeq1.idx_int
    wp_walk using wpAny_loadPart' hl
    repeat (first
      | (refine wpAny_ite_false (decide_eq_false (by rw [c0]; exact Bool.false_ne_true)) ?_; wp_walk using wpAny_loadPart' hl)
      | (refine wpAny_ite_false (decide_eq_false (by rw [c1]; exact Bool.false_ne_true)) ?_; wp_walk using wpAny_loadPart' hl)
      | (refine wpAny_ite_true (decide_eq_true c2) ?_; wp_walk using wpAny_loadPart' hl))
    exact ⟨_, rfl, h⟩
def rRep1 (K : PySem.W.Frag) : R2 := fun x y H Q => ∃ l xs, x = .ref l ∧ y = .int 1 ∧ SqT K H l xs ∧ Q (.ref l) H
def rRep0 (K : PySem.W.Frag) : R2 := fun x y H Q => ∃ l k xs, x = .ref l ∧ y = .int k ∧ SqT K H l xs ∧ xs ≠ [] ∧ k ≤ 0 ∧ -1000000 ≤ k ∧ ∀ p, H p = none → Q (.ref p) (upd H p (.tup []))
section
variable {X : Cx}
theorem op_rep1 : OpR X (binaryOp .Mult) (rRep1 X.K) := by
  intro pins s σ H x y v u Q I rx ry h
  obtain ⟨l, xs, rfl, rfl, hT, q⟩ := h
  cases rx
  obtain ⟨t, rfl⟩ := ry
  obtain ⟨its, r, ⟨⟨cls, dd, data, sl⟩, ho, hc, n, hd⟩, hs⟩ := I.tuple hT
  simp only at hc hd
  subst hc hd
  exact wpAny_binaryOp_repeat_ref (T := "tuple") (U := "int") (by decide) ⟨_, ho, rfl⟩ (fun s' => typeIs_int s' 1 t) noFill_tuple_mul F.fills_int_mul F.slot_int_rmul repeat_tuple F.slot_int_index.lookup
    (call_meets F.slot_int_rmul (typeIs_int s 1 t) F.entry_int_rmul (F.args_int_rmul_2 _ _) (int_rmul_tuple 1 t l its.toArray n dd sl)
      ⟨ho, rfl, ⟨_, ho, rfl⟩, call_meets F.slot_tuple_mul ⟨_, ho, rfl⟩ F.entry_tuple_mul (F.args_tuple_mul_2 _ _) (tup_once l its.toArray n dd sl t) ⟨ho, .ref l, H, I, rfl, q⟩⟩)
theorem op_rep0 : OpR X (binaryOp .Mult) (rRep0 X.K) := by
  intro pins s σ H x y v u Q I rx ry h
  obtain ⟨l, k, xs, rfl, rfl, hT, hne, h1, h2, q⟩ := h
  cases rx
  obtain ⟨t, rfl⟩ := ry
  obtain ⟨its, r, ⟨⟨cls, dd, data, sl⟩, ho, hc, n, hd⟩, hs⟩ := I.tuple hT
  simp only at hc hd
  subst hc hd
  have hle : its.length = xs.length := r.length.symm
  have hi : its.toArray.isEmpty = false := by
    cases its with
    | nil => exact absurd (List.eq_nil_of_length_eq_zero hle.symm) hne
    | cons a b => rfl
  have c0 : (decide (k < -(2 ^ 63)) || decide (k ≥ 2 ^ 63)) = false := by
    rw [Bool.or_eq_false_iff]
    exact ⟨decide_eq_false (by omega), decide_eq_false (by omega)⟩
  have c1 : (its.toArray.isEmpty || k == 1) = false := by
    rw [hi, Bool.false_or]
    exact beq_eq_false_iff_ne.mpr (by omega)
  have c2 : (decide (k ≤ 0) || its.toArray.isEmpty) = true := by
    rw [decide_eq_true h1, Bool.true_or]
  refine wpAny_binaryOp_repeat_ref (T := "tuple") (U := "int") (by decide) ⟨_, ho, rfl⟩ (fun s' => typeIs_int s' k t) noFill_tuple_mul F.fills_int_mul F.slot_int_rmul repeat_tuple F.slot_int_index.lookup
    (call_meets F.slot_int_rmul (typeIs_int s k t) F.entry_int_rmul (F.args_int_rmul_2 _ _) (int_rmul_tuple k t l its.toArray n dd sl)
      ⟨ho, rfl, ⟨_, ho, rfl⟩, call_meets F.slot_tuple_mul ⟨_, ho, rfl⟩ F.entry_tuple_mul (F.args_tuple_mul_2 _ _) (tup_none l its.toArray n dd sl k t c0 c1 c2) ⟨ho, ?_⟩⟩)
  refine ⟨.ref s.heap.objs.size, _, I.laid (t' := s.toks) (o := .tup []) (fun b ob q => Heap.get?_push_of_some _ q) (Nat.le_refl _) ?_, rfl, q _ (I.hok.fresh (Nat.le_refl _))⟩
  exact ⟨Nat.zero_le _, [], .nil, IsTup.new _ _⟩
end
end Y
namespace Y
open PySem L2 PyProof.Rows
section
variable {X : Cx} {cl : Str → Addr} {W : WX} {K : PySem.W.Frag} {io : Bool} {M M' : Addr → Prop} {H H' : Hp}
def tyN : Dt → String
  | .n => "NoneType" | .b _ => "bool" | .i _ => "int" | .s _ => "str" | .t _ => "tuple" | .l _ => "list" | .z _ => "list" | .m _ _ => "dict" | .o _ _ _ => "object" | .x _ _ _ => "exc" | .f _ => "function" | .k _ _ => "dict"
def isT (T : String) (x : Dt) : Bool := tyN x == T || (T == "int" && tyN x == "bool")
/-- no dict, no object -/
def isP : Dt → Bool
  | .m _ _ => false
  | .o _ _ _ => false
  | .x _ _ _ => false
  | .f _ => false
  | .k _ _ => false
  | _ => true
theorem Co.tyx {v : V} {x : Dt} (c : Co K M H v x) (hp : isP x = true) : TyX K H v (.type (tyN x)) := by
  cases c with
  | m _ _ _ => cases hp
  | o _ _ _ _ => cases hp
  | x0 _ _ => cases hp
  | f _ => cases hp
  | k _ _ _ _ _ _ => cases hp
  | x1 _ _ _ _ => cases hp
  | n => exact .base .non
  | b x => exact .base (.bl x)
  | i x => exact .base (.int x)
  | s x => exact .base (.str x)
  | t h q =>
    rcases h with h | ⟨o, its, n, h1, h2, _⟩
    · rcases h with h | ⟨o, h⟩
      · exact .base (.tup h)
      · exact .fTuple h
    · exact .kTuple h1 h2
  | l h _ q => exact .base (.lst h)
  | z h q =>
    rcases h with ⟨o, h⟩ | ⟨o, its, n, h1, h2, _⟩
    · exact .base (.frz h)
    · exact .kList h1 h2
theorem kitT {K : PySem.W.Frag} {T : String} (hT : T ∈ ["list", "tuple", "str", "bool", "int"]) {v : V} {x : Dt} (c : Co K M H v x) (hp : isP x = true) : PySem.W.kitOne K (.type (tyN x)) (.type T) = some (isT T x) := by
  have tab : ∀ ty ∈ ["NoneType", "bool", "int", "str", "tuple", "list"], ∀ T ∈ ["list", "tuple", "str", "bool", "int"], kitB ty T = some (ty == T || (T == "int" && ty == "bool")) := by decide +kernel
  refine kit_ty (tab (tyN x) ?_ T hT)
  cases c <;> first | (simp [tyN]; done) | cases hp
def fIsi (Ts : List String) : List Dt → Option Vl
  | [x] => if isP x then some (.b (Ts.any (isT · x)), .c) else none
  | _ => none
def rIsi1 (K : PySem.W.Frag) (T : String) : List V → Hp → VK → Prop
  | [x], H, Q => rIsi K [x, .ty T] H Q
  | _, _, _ => False
theorem pr_isi1 {T : String} (hT : T ∈ ["list", "tuple", "str", "bool", "int"]) : Pr K (rIsi1 K T) (fIsi [T]) := fun M H vs xs x m Q ht c hf k => by
  unfold fIsi at hf
  split at hf
  · rename_i d
    split at hf
    · rename_i hp
      cases hf
      obtain ⟨v, rfl, c1⟩ := c.one
      exact ⟨v, .ty T, _, _, _, rfl, .ty T, c1.tyx hp, kitT hT c1 hp, by simpa using k _ _ _ (mk_c ht (.b _))⟩
    · cases hf
  · cases hf
def rIsi2 (K : PySem.W.Frag) (T T' : String) : List V → Hp → VK → Prop
  | [x], H, Q => ∀ p, H p = none → rIsiT K [x, .ref p] (upd H p (.tup [.ty T, .ty T'])) Q
  | _, _, _ => False
theorem pr_isi2 {T T' : String} (hT : T ∈ ["list", "tuple", "str", "bool", "int"]) (hT' : T' ∈ ["list", "tuple", "str", "bool", "int"]) : Pr K (rIsi2 K T T') (fIsi [T, T']) := fun M H vs xs x m Q ht c hf k => by
  unfold fIsi at hf
  split at hf
  · rename_i d
    split at hf
    · rename_i hpp
      cases hf
      obtain ⟨v, rfl, c1⟩ := c.one
      intro p hp
      have c2 := c1.fm (fm_new0 (o := .tup [.ty T, .ty T']) ht hp)
      refine ⟨v, p, [.ty T, .ty T'], _, [.type T, .type T'], (isT T d || isT T' d), rfl, upd_same, .cons (.ty T) (.cons (.ty T') .nil), c2.tyx hpp, kitAny_cons (kitT hT c2 hpp) (fun e => ?_) (fun e => by simp [e]), ?_⟩
      · rw [e, Bool.false_or]
        exact kitAny_cons (kitT hT' c2 hpp) (fun e2 => by rw [e2]; exact kitAny_nil) (fun e2 => e2)
      · have mk : Mk K H M (.bl (isT T d || isT T' d)) (.b (isT T d || isT T' d)) .c (upd H p (.tup [.ty T, .ty T'])) [] := ⟨same_new hp, fun _ z => (nomatch z), List.nodup_nil, .b _, rfl⟩
        have := k _ _ _ (by simpa using mk)
        simpa using this
    · cases hf
  · cases hf
theorem je_isi1 {T : String} {Tn : Str} {e : Expr} {A : Am} {p p2 pos : Pos} (hT : T ∈ ["list", "tuple", "str", "bool", "int"]) (hg : Gl X "isinstance") (hm : X.mg "isinstance" = none) (hg2 : Gl X Tn) (hm2 : X.mg Tn = none) (hv2 : bootBuiltins Tn = some (.type T)) (he : JO X cl W e A) (hn : Tn ≠ "__name__" := by decide) (hd : (Tn == ("__debug__" : Str)) = false := by decide)
    (hs : starEach [e, .Name Tn p2] X.env = (false, eval e X.env) :: starEach [.Name Tn p2] X.env := by rfl) (hs2 : starEach [.Name Tn p2] X.env = (false, eval (.Name Tn p2) X.env) :: starEach [] X.env := by rfl) (hpl : (backTo pos (starEach [.Name Tn p2] X.env)).any (·.1) = false := by rfl) :
    JE X cl W (.Call (.Name "isinstance" p) [e, .Name Tn p2] [] pos) (mP (fIsi [T]) [A]) := fun tk =>
  (pe_callB call_isi hg hm (by rfl) (pa_cons (he.pe tk) (pa_cons (pe_bltn hg2 hm2 hv2 (show RelV (.ty T) (.type T) from rfl) hn hd) pa_nil hs2) hs) (by decide) (by decide) hs hpl).yimp fun σ H Q q => by
    have := mP_ok (pr_isi1 hT) q
    cases A <;> exact this
theorem je_isi2 {T T' : String} {Tn Tn' : Str} {e : Expr} {A : Am} {k : Nat} {p p2 p3 tp pos : Pos} (hT : T ∈ ["list", "tuple", "str", "bool", "int"]) (hT' : T' ∈ ["list", "tuple", "str", "bool", "int"]) (hg : Gl X "isinstance") (hm : X.mg "isinstance" = none) (hg2 : Gl X Tn) (hm2 : X.mg Tn = none) (hv2 : bootBuiltins Tn = some (.type T)) (hg3 : Gl X Tn') (hm3 : X.mg Tn' = none) (hv3 : bootBuiltins Tn' = some (.type T')) (he : JO X cl W e A)
    (hn : Tn ≠ "__name__" := by decide) (hd : (Tn == ("__debug__" : Str)) = false := by decide) (hn' : Tn' ≠ "__name__" := by decide) (hd' : (Tn' == ("__debug__" : Str)) = false := by decide)
    (hs : starEach [e, .Tuple [.Name Tn p2, .Name Tn' p3] k tp] X.env = (false, eval e X.env) :: starEach [.Tuple [.Name Tn p2, .Name Tn' p3] k tp] X.env := by rfl) (hs2 : starEach [.Tuple [.Name Tn p2, .Name Tn' p3] k tp] X.env = (false, eval (.Tuple [.Name Tn p2, .Name Tn' p3] k tp) X.env) :: starEach [] X.env := by rfl)
    (hpl : (backTo pos (starEach [.Tuple [.Name Tn p2, .Name Tn' p3] k tp] X.env)).any (·.1) = false := by rfl) (hs3 : starEach [.Name Tn p2, .Name Tn' p3] X.env = (false, eval (.Name Tn p2) X.env) :: starEach [.Name Tn' p3] X.env := by rfl) (hs4 : starEach [.Name Tn' p3] X.env = (false, eval (.Name Tn' p3) X.env) :: starEach [] X.env := by rfl) :
    JE X cl W (.Call (.Name "isinstance" p) [e, .Tuple [.Name Tn p2, .Name Tn' p3] k tp] [] pos) (mP (fIsi [T, T']) [A]) := fun tk =>
  (pe_callB call_isiT hg hm (by rfl) (pa_cons (he.pe tk) (pa_cons (pe_tup (pa_cons (pe_bltn hg2 hm2 hv2 (show RelV (.ty T) (.type T) from rfl) hn hd) (pa_cons (pe_bltn hg3 hm3 hv3 (show RelV (.ty T') (.type T') from rfl) hn' hd') pa_nil hs4) hs3)) pa_nil hs2) hs) (by decide) (by decide) hs hpl).yimp fun σ H Q q => by
    have := mP_ok (pr_isi2 hT hT') q
    have mono : ∀ {Q Q' : V → Hp → Prop}, tO X.K cl W A σ H Q → (∀ v H, Q v H → Q' v H) → tO X.K cl W A σ H Q' := fun {Q Q'} h i => js_par2.tOs_mono (as := [A]) (Q := fun vs H => match vs with | [v] => Q v H | _ => True) (Q' := fun vs H => match vs with | [v] => Q' v H | _ => True) h fun vs H h => by
      match vs, h with
      | [v], h => exact i v H h
      | [], _ => trivial
      | _ :: _ :: _, _ => trivial
    exact mono this fun v H1 h => ⟨by show 2 ≤ sizeLine; decide, h⟩
def inA (neg : Bool) (d : PyData) (ds : List PyData) : Bool := if neg then !(ds.any fun z => PyData.eqv z d) else ds.any fun z => PyData.eqv z d
def rInA (K : PySem.W.Frag) (neg : Bool) : R2 := fun x y H Q => ∃ d ds, Dp K H x d ∧ (Dp K H y (.list ds) ∨ Dp K H y (.tuple ds)) ∧ SeqAt.shaped d = true ∧ SeqAt.shaped (.list ds) = true ∧ SeqAt.shaped (.tuple ds) = true ∧ Q (.bl (inA neg d ds)) H
theorem or_in (hu : X.A.units + 65 < cLine) : OpR X (compareOp .In) (rInA X.K false) := by
  intro pins s σ H x y v u Q I rx ry h
  obtain ⟨d, ds, hd, he, sd, se, st, q⟩ := h
  obtain ⟨as, r1⟩ := Dp.reads I d x v hd rx
  rcases he with he | he
  · obtain ⟨bs, r2⟩ := Dp.reads I (.list ds) y u he ry
    exact SeqAt.in_list_reads r2 r1 (SeqAt.canLay_of_shaped se) (SeqAt.canLay_of_shaped sd) (room_in_shaped sd hu) ⟨.bl _, H, I, rfl, q⟩
  · obtain ⟨bs, r2⟩ := Dp.reads I (.tuple ds) y u he ry
    exact SeqAt.in_tuple_reads r2 r1 (SeqAt.canLay_of_shaped st) (SeqAt.canLay_of_shaped sd) (room_in_shaped sd hu) ⟨.bl _, H, I, rfl, q⟩
def inL (neg : Bool) (x : Dt) (ys : List Dt) : Bool := if neg then !(ys.any fun z => eqD z x) else ys.any fun z => eqD z x
def fInA (neg : Bool) : List Dt → Option Vl
  | [x, .l ys] => if shp x && shp (.l ys) && shp (.t ys) then some (.b (inL neg x ys), .c) else none
  | [x, .t ys] => if shp x && shp (.l ys) && shp (.t ys) then some (.b (inL neg x ys), .c) else none
  | [x, .z ys] => if shp x && shp (.l ys) && shp (.t ys) then some (.b (inL neg x ys), .c) else none
  | _ => none
theorem inA_eq {neg : Bool} {x : Dt} {ys : List Dt} : inA neg (toP x) (toPL ys) = inL neg x ys := by
  unfold inA inL
  rw [toPL_map, List.any_map]; rfl
theorem pr_in {neg : Bool} : Pr K (ap2 (rInA K neg)) (fInA neg) := fun M H vs xs x m Q ht c hf k => by
  unfold fInA at hf
  split at hf
  · split at hf
    · rename_i h
      cases hf
      simp only [Bool.and_eq_true] at h
      obtain ⟨v, w, rfl, c1, c2⟩ := c.two
      exact ⟨_, _, c1.dp (nob_shp h.1.1), .inl (c2.dp (nob_shp h.1.2)), h.1.1, h.1.2, h.2, by rw [inA_eq]; exact k _ _ _ (mk_c ht (.b _))⟩
    · cases hf
  · split at hf
    · rename_i h
      cases hf
      simp only [Bool.and_eq_true] at h
      obtain ⟨v, w, rfl, c1, c2⟩ := c.two
      exact ⟨_, _, c1.dp (nob_shp h.1.1), .inr (c2.dp (nob_shp h.2)), h.1.1, h.1.2, h.2, by rw [inA_eq]; exact k _ _ _ (mk_c ht (.b _))⟩
    · cases hf
  · split at hf
    · rename_i h
      cases hf
      simp only [Bool.and_eq_true] at h
      obtain ⟨v, w, rfl, c1, c2⟩ := c.two
      exact ⟨_, _, c1.dp (nob_shp h.1.1), .inl (c2.dp (nob_shp h.1.2)), h.1.1, h.1.2, h.2, by rw [inA_eq]; exact k _ _ _ (mk_c ht (.b _))⟩
    · cases hf
  · cases hf
def fRepT : List Dt → Option Vl
  | [.t xs, .i k] => if xs ≠ [] ∧ -1000000 ≤ k ∧ k ≤ 1000 ∧ xs.length ≤ 1000 then some (.t (List.replicate k.toNat xs).flatten, .c) else none
  | _ => none
def rRepN (K : PySem.W.Frag) : R2 := fun x y H Q => rRep1 K x y H Q ∨ (rRep0 K x y H Q ∨ rRepT K x y H Q)
theorem pr_repT : Pr K (ap2 (rRepN K)) fRepT := fun M H vs xs x m Q ht c hf k => by
  unfold fRepT at hf
  split at hf
  · rename_i ys n
    split at hf
    · rename_i h
      cases hf
      obtain ⟨v, w, rfl, c1, c2⟩ := c.two
      have c0 := c1
      obtain ⟨a, us, rfl, h1, q1⟩ := c1.tup
      have hw := c2.int
      have hne : us ≠ [] := fun z => h.1 (by subst z; exact q1.nilD)
      subst hw
      by_cases e1 : n = 1
      · subst e1
        have e : (List.replicate (1 : Int).toNat ys).flatten = ys := by simp
        rw [e] at k
        exact .inl ⟨a, us, rfl, rfl, h1, k _ _ _ (mk_c ht c0)⟩
      · by_cases e0 : n ≤ 0
        · have e : (List.replicate n.toNat ys).flatten = [] := by
            have : n.toNat = 0 := by omega
            simp [this]
          rw [e] at k
          exact .inr (.inl ⟨a, n, us, rfl, rfl, h1, hne, e0, h.2.1, fun p hp => k _ _ _ (mk_tup ht hp .nil)⟩)
        · exact .inr (.inr ⟨a, n, us, rfl, rfl, h1, hne, by omega, h.2.2.1, by rw [q1.len]; exact h.2.2.2, fun p hp => k _ _ _ (mk_tup ht hp (q1.rep _))⟩)
    · cases hf
  · cases hf
noncomputable def fMul : List Dt → Option Vl := fun xs => (fMulI xs).or ((fRepL xs).or (fRepT xs))
def rMulA (K : PySem.W.Frag) : R2 := fun x y H Q => rI CMul (fun i j => .int (i * j)) x y H Q ∨ (rRep x y H Q ∨ rRepN K x y H Q)
theorem or_mul : OpR X (binaryOp .Mult) (rMulA X.K) := op_mul.or (op_rep.or (op_rep1.or (op_rep0.or op_repT)))
theorem pr_mul : Pr K (ap2 (rMulA K)) fMul := (pr_iC (fun a b h => cMul_ok h) fun a b M H => .i _).or2 (pr_repL.or2 pr_repT)
def fRev : List Dt → Option Vl
  | [.l xs] => some (.l xs.reverse, .t)
  | [.z xs] => some (.l xs.reverse, .t)
  | _ => none
def mCh (f f' : List Dt → Option Vl) (A B C : Am) : Ev → Ou Vl := fun r => match evA [A, B] r with
  | .ok ys r1 => match look r1 ys with
    | some [x, .i b] => match f [x, .i b] with
      | some (.b true, _) => match evA [C] r1 with
        | .ok zs r2 => match look r2 zs with
          | some [z] => match f' [.i b, z] with
            | some (.b k, _) => .ok (.b k, .c) r2
            | _ => .no
          | _ => .no
        | .ex c fs r2 => .ex c fs r2
        | .no => .no
      | some (.b false, _) => .ok (.b false, .c) r1
      | _ => .no
    | _ => .no
  | .ex c fs r1 => .ex c fs r1
  | .no => .no
theorem chain_go {rr rr' : R2} {A B C : Am} {f f' : List Dt → Option Vl} {σ : L2.St} {H : Hp} {Q : VK} (hp : Pr X.K (ap2 rr) f) (hp' : Pr X.K (ap2 rr') f') (h : tI X.K cl W (mCh f f' A B C) σ H Q) : tChain rr rr' (tO X.K cl W A) (tO X.K cl W B) (tO X.K cl W C) σ H Q := by
    obtain ⟨r, M, G, e, h⟩ := h
    show tOs X.K cl W [A, B] σ H fun vs H1 => match vs with
      | [x, y] => rr x y H1 fun z H3 => ∃ k, z = .bl k ∧ (if k = true then tO X.K cl W C σ H3 fun w' H4 => rr' y w' H4 Q else Q (.bl false) H3)
      | _ => False
    refine tOs_ok [A, B] e ?_
    simp only [mCh] at h
    cases h1 : evA [A, B] r with
    | no => rw [h1] at h; exact h
    | ex c fs r1 => rw [h1] at h; exact h
    | ok ys r1 =>
      rw [h1] at h
      intro vs H1 M1 G1 e1 v1 a1
      cases hl : look r1 ys with
      | none => simp only [hl] at h
      | some xs =>
        simp only [hl] at h
        have hxs : ∃ x b, xs = [x, .i b] := by
          match xs, h with
          | [x, .i b], _ => exact ⟨x, b, rfl⟩
          | [], h => exact (show False from h).elim
          | [_], h => exact (show False from h).elim
          | _ :: y :: _ :: _, h => cases y <;> exact (show False from h).elim
          | [_, .n], h => exact (show False from h).elim
          | [_, .b _], h => exact (show False from h).elim
          | [_, .s _], h => exact (show False from h).elim
          | [_, .t _], h => exact (show False from h).elim
          | [_, .l _], h => exact (show False from h).elim
          | [_, .z _], h => exact (show False from h).elim
          | [_, .m _ _], h => exact (show False from h).elim
          | [_, .o _ _ _], h => exact (show False from h).elim
          | [_, .x _ _ _], h => exact (show False from h).elim
          | [_, .f _], h => exact (show False from h).elim
          | [_, .k _ _], h => exact (show False from h).elim
        · obtain ⟨x, b, rfl⟩ := hxs
          simp only at h
          have cc : CoL X.K (fun b => M1 b ∧ b ∉ owns G1 ys) H1 vs [x, .i b] := look_cold e1 (fun b z => z.1) (fun b hb z => z.2 hb) a1 hl
          have ht1 : Hotty (fun b => M1 b ∧ b ∉ owns G1 ys) H1 := fun b z => e1.hot b z.1
          have cc0 := cc
          obtain ⟨v, w, rfl, c1, c2⟩ := cc.two
          have ew := c2.int
          subst ew
          have nx : ∀ {k : Bool} {mk : Md}, f [x, .i b] = some (.b k, mk) → (∀ H2 M2 G2, ER X.K r1 σ G2 M2 H2 → Evo H M G H2 M2 G2 [] → (if k = true then tO X.K cl W C σ H2 fun w' H4 => rr' (.int b) w' H4 Q else Q (.bl false) H2)) → rr v (.int b) H1 fun z H3 => ∃ k, z = .bl k ∧ (if k = true then tO X.K cl W C σ H3 fun w' H4 => rr' (.int b) w' H4 Q else Q (.bl false) H3) := fun {k mk} hf q => by
            refine hp _ H1 [v, .int b] _ _ _ _ ht1 cc0 hf fun z H2 F p => ?_
            have p2 := p.px e1 v1 e.hot (by simp [Dt.flat])
            obtain ⟨M3, e3, v3, c3⟩ := p2.giveUp e.hot
            exact ⟨k, c3.bl, q H2 M3 _ e3 v3⟩
          have hff : ∃ k mk, f [x, .i b] = some (.b k, mk) := by
            match hf : f [x, .i b], h with
            | some (.b k, mk), _ => exact ⟨k, mk, rfl⟩
            | none, h => exact (show False from h).elim
            | some (.n, _), h => exact (show False from h).elim
            | some (.i _, _), h => exact (show False from h).elim
            | some (.s _, _), h => exact (show False from h).elim
            | some (.t _, _), h => exact (show False from h).elim
            | some (.l _, _), h => exact (show False from h).elim
            | some (.z _, _), h => exact (show False from h).elim
            | some (.m _ _, _), h => exact (show False from h).elim
            | some (.o _ _ _, _), h => exact (show False from h).elim
            | some (.x _ _ _, _), h => exact (show False from h).elim
            | some (.f _, _), h => exact (show False from h).elim
            | some (.k _ _, _), h => exact (show False from h).elim
          obtain ⟨k, mk, hf⟩ := hff
          rw [hf] at h
          cases k with
          | true =>
            refine nx hf fun H2 M2 G2 e2 v2 => ?_
            rw [if_pos rfl]
            show tOs X.K cl W [C] σ H2 fun vs H3 => match vs with
              | [z] => rr' (.int b) z H3 Q
              | _ => False
            refine tOs_ok [C] e2 ?_
            cases h2 : evA [C] r1 with
            | no => rw [h2] at h; exact h
            | ex c fs r2 => rw [h2] at h; exact fun d H' M' G' p => h d H' M' G' ⟨p.er, v2.trans e.hot p.ev, p.xd⟩
            | ok zs r2 =>
              rw [h2] at h
              intro us H3 M3 G3 e3 v3 a3
              cases hl2 : look r2 zs with
              | none => simp only [hl2] at h
              | some xs2 =>
                simp only [hl2] at h
                have hzz : ∃ z, xs2 = [z] := by
                  match xs2, h with
                  | [z], _ => exact ⟨z, rfl⟩
                  | [], h => exact (show False from h).elim
                  | _ :: _ :: _, h => exact (show False from h).elim
                · obtain ⟨z, rfl⟩ := hzz
                  simp only at h
                  have cc3 : CoL X.K (fun b => M3 b ∧ b ∉ owns G3 zs) H3 us [z] := look_cold e3 (fun b z => z.1) (fun b hb z => z.2 hb) a3 hl2
                  have ht3 : Hotty (fun b => M3 b ∧ b ∉ owns G3 zs) H3 := fun b z => e3.hot b z.1
                  obtain ⟨u, rfl, c5⟩ := cc3.one
                  have hff2 : ∃ k mk, f' [.i b, z] = some (.b k, mk) := by
                    match hf : f' [.i b, z], h with
                    | some (.b k, mk), _ => exact ⟨k, mk, rfl⟩
                    | none, h => exact (show False from h).elim
                    | some (.n, _), h => exact (show False from h).elim
                    | some (.i _, _), h => exact (show False from h).elim
                    | some (.s _, _), h => exact (show False from h).elim
                    | some (.t _, _), h => exact (show False from h).elim
                    | some (.l _, _), h => exact (show False from h).elim
                    | some (.z _, _), h => exact (show False from h).elim
                    | some (.m _ _, _), h => exact (show False from h).elim
                    | some (.o _ _ _, _), h => exact (show False from h).elim
                    | some (.x _ _ _, _), h => exact (show False from h).elim
                    | some (.f _, _), h => exact (show False from h).elim
                    | some (.k _ _, _), h => exact (show False from h).elim
                  · obtain ⟨k, mk2, hf2⟩ := hff2
                    rw [hf2] at h
                    refine hp' _ H3 [.int b, u] _ _ _ _ ht3 (.cons (.i b) (.cons c5 .nil)) hf2 fun z H4 F p => ?_
                    have p2 := p.px e3 (v2.trans e.hot v3) e.hot (by simp [Dt.flat])
                    obtain ⟨M5, e5, v5, c6⟩ := p2.giveUp e.hot
                    have := c6.bl
                    subst this
                    exact h _ H4 M5 _ [] ⟨e5, v5, ⟨.b k, rfl⟩, List.nodup_nil, fun _ z => nomatch z⟩
          | false =>
            refine nx hf fun H2 M2 G2 e2 v2 => ?_
            rw [if_neg Bool.false_ne_true]
            exact h _ H2 M2 G2 [] ⟨e2, v2, ⟨.b _, rfl⟩, List.nodup_nil, fun _ z => nomatch z⟩
theorem jt_chain {op op' : CmpOp} {rr rr' : R2} {a b c : Expr} {A B C : Am} {f f' : List Dt → Option Vl} {pos : Pos} (ho : OpR X (compareOp op) rr) (ho' : OpR X (compareOp op') rr') (hp : Pr X.K (ap2 rr) f) (hp' : Pr X.K (ap2 rr') f') (ha : JO X cl W a A) (hb : JO X cl W b B) (hc : JO X cl W c C)
    (hm : lastMarks [op, op'] [b, c] = false := by with_unfolding_all rfl) : JT X cl W (.Compare a [op, op'] [b, c] pos) (mTe (mCh f f' A B C)) := fun tk => (pt_chain ho ho' (ha.pe tk) (hb.pe tk) (hc.pe tk) hm).yimp fun _ _ _ q => chain_go hp hp' (tI_te q)
end
end Y
namespace Y
open PySem L2 PyProof.Rows
section
variable {X : Cx} {cl : Str → Addr} {W : WX} {K : PySem.W.Frag} {io : Bool} {M M' : Addr → Prop} {H H' : Hp}
def sAug (i : Nat) (C : Int → Int → Bool) (g : Int → Int → Int) (f : Ev → Ou Vl) : Ev → So := fun r => match r[i]? with
  | some (some (.i a, _)) => match f r with
    | .ok (.i b, _) r1 => if C a b then .nx (r1.set i (some (.i (g a b), .c))) else .no
    | .ex c fs r1 => .ex c fs r1
    | _ => .no
  | _ => .no
end
section
variable {P : Program} {w : World} {K : PySem.W.Frag} {mg : Str → Option Value} {base : Heap} {cl : Str → Addr} {io : Bool}
/-- nothing is promised below the last level -/
def fnNo : Fn := fun _ => .no
theorem fn_no {x qual : Str} {st : Stmt} {f : Addr} {fd : FuncData} {N ps : List Str} {k n : Nat} (F : Fun K x qual st f fd) (S : FnScope N ps (defScope st)) (hn : ps.length = n := by rfl) :
    FnOk P w K mg base (L2.CX P w) (k + 1) f fd ps (spY K cl io n fnNo) := by
  subst hn
  exact fn_okX F S (fun vs H Q E h => h.1) fun cdv A outer s H vs Q E hr ⟨_, _, _, _, _, _, h⟩ => h.elim
theorem tabs_none {H : Hp} (nl : ∀ y ∈ lamNames, PySem.W.nsIn K mainGlobals y = some none) : TabsK K H := fun P q ⟨x, f, c, fo, co, fd, vs, hx, hn, _⟩ => by
  rw [nl x hx] at hn; cases hn
/-- what the head asks: the law's def says True of its script -/
theorem law_in {fn : Fn} {ns : List Int} {a : Addr} {H : Hp} (h : ∃ m z, fn [(.z (ns.map .i), .c)] = .rt (.b true, m) z) (hO : Only H) (tb : TabsK K H) (hS : SqL K H a (ns.map V.int)) : spY K cl false 1 fn [.ref a] H (fun v _ => v = .bl true) fun _ _ _ => False := by
  obtain ⟨m, z, h⟩ := h
  have hF : SqF K H a (ns.map V.int) := by
    rcases hS with hS | hS
    · rcases hS with hS | ⟨o, hS⟩
      · rcases hO a with q | ⟨o, xs, q⟩ <;> (rw [hS] at q; cases q)
      · exact .inl ⟨o, hS⟩
    · exact .inr hS
  have ci : ∀ ns : List Int, CoL K (fun _ => False) H (ns.map V.int) (ns.map .i) := by
    intro ns
    induction ns with
    | nil => exact .nil
    | cons n ns ih => exact .cons (.i n) ih
  refine ⟨rfl, cold [.z (ns.map .i)], fun _ => False, fun _ => [], ER.ofCold (fun _ z => z.elim) tb (.cons (.z hF (ci ns)) .nil), fun _ _ => rfl, ?_⟩
  show match fn [(.z (ns.map .i), .c)] with
    | .rt (x, m) z => _
    | .ex c fs z => _
    | .no => False
  rw [h]
  intro v H' M' G' F p
  obtain ⟨M2, _, _, c⟩ := p.giveUp (fun _ z => z.elim)
  exact c.bl
end
end Y
namespace Y
open PySem L2 PyProof.Rows
theorem cx_never {P : Program} {w : World} {H : Hp} {s s' : Shared} {e : Value} (h : L2.CX P w [] H s (fun _ _ _ => False) e s') : False := by
  obtain ⟨_, _, _, _, _, _, _, _, _, _, _, _, z⟩ := h
  exact z
theorem u65 {A : Around} {k : Nat} (hr : Room k A) : A.units + 65 < cLine := by have := hr.un; omega
end Y
namespace Y
open PySem L2 PyProof.Rows
section
variable {K : PySem.W.Frag} {cl : Str → Addr} {W : WX} {io : Bool} {M M' M0 : Addr → Prop} {H H' H0 : Hp} {G G' G0 : Nat → List Addr} {r r' : Ev} {σ σ0 : L2.St} {D : Ends}
/-- indices, the last one first -/
def evK : List (Ev → Ou Vl) → Ev → Option (List Int × Ev)
  | [], r => some ([], r)
  | f :: fs, r => match evK fs r with
    | some (ks, r1) => match f r1 with
      | .ok (.i k, _) r2 => some (ks ++ [k], r2)
      | _ => none
    | none => none
def tPath (K : PySem.W.Frag) (cl : Str → Addr) (W : WX) (i : Nat) : List (Ev → Ou Vl) → TE
  | [] => tVar i
  | f :: fs => tOp (rIxL K) (tPath K cl W i fs) (tI K cl W f)
def JPa (X : Cx) (cl : Str → Addr) (W : WX) (o : Expr) (i : Nat) (fs : List (Ev → Ou Vl)) : Prop := Takes X W → PE X o (tPath X.K cl W i fs)
theorem jpa_n {X : Cx} {o : Expr} (i : Nat) (h : PE X o (tVar i)) : JPa X cl W o i [] := fun _ => h
theorem jpa_c {X : Cx} {o ix : Expr} {i : Nat} {f : Ev → Ou Vl} {fs : List (Ev → Ou Vl)} {pos : Pos} (h : JPa X cl W o i fs) (hf : JE X cl W ix f) (hs : PlainIx ix) : JPa X cl W (.Subscript o ix pos) i (f :: fs) := fun tk => pe_ix ix_list (h tk) (hf tk) hs
def getP : Dt → List Int → Option Dt
  | x, [] => some x
  | .l xs, k :: ks => (atI xs k).bind fun y => getP y ks
  | _, _ :: _ => none
def apP (y : Dt) : Dt → List Int → Option Dt
  | .l xs, [] => if xs.length < LIM then some (.l (xs ++ [y])) else none
  | .l xs, k :: ks => (ixN xs.length k).bind fun j => (xs[j]?).bind fun x => (apP y x ks).map fun x' => .l (xs.set j x')
  | _, _ => none
/-- w, y stand at that path -/
inductive At (H : Hp) : V → Dt → List Int → V → Dt → Prop
  | nil {v : V} {x : Dt} : At H v x [] v x
  | cons {a : Addr} {us : List V} {xs : List Dt} {k : Int} {ks : List Int} {v' w : V} {x' y : Dt} : H a = some (.lst us) → atI us k = some v' → atI xs k = some x' → At H v' x' ks w y → At H (.ref a) (.l xs) (k :: ks) w y
theorem At.snoc {v : V} {x : Dt} {ks : List Int} {a : Addr} {us : List V} {xs : List Dt} {k : Int} {w : V} {y : Dt} (h : At H v x ks (.ref a) (.l xs)) (h1 : H a = some (.lst us)) (h2 : atI us k = some w) (h3 : atI xs k = some y) : At H v x (ks ++ [k]) w y := by
  generalize hv : V.ref a = va at h
  generalize hx : Dt.l xs = xa at h
  induction h with
  | nil => subst hv; subst hx; exact .cons h1 h2 h3 .nil
  | cons q1 q2 q3 _ ih => exact .cons q1 q2 q3 (ih hv hx)
theorem atI_ho {us : List V} {xs : List Dt} {F : List Addr} {k : Int} {x : Dt} (h : HoL K H us xs F) (e : atI xs k = some x) : ∃ v F', atI us k = some v ∧ Ho K H v x F' ∧ ∀ b ∈ F', b ∈ F := by
  have go : ∀ {us : List V} {xs : List Dt} {F : List Addr} {j : Nat}, HoL K H us xs F → xs[j]? = some x → ∃ v F', us[j]? = some v ∧ Ho K H v x F' ∧ ∀ b ∈ F', b ∈ F := by
    intro us
    induction us with
    | nil => intro xs F j h e; cases h; simp at e
    | cons u us ih =>
      intro xs F j h e
      cases h with
      | cons h1 h2 =>
        cases j with
        | zero => simp at e; subst e; exact ⟨u, _, rfl, h1, fun b hb => List.mem_append_left _ hb⟩
        | succ j =>
          obtain ⟨v, F', q1, q2, q3⟩ := ih h2 (j := j) (by simpa using e)
          exact ⟨v, F', by simpa using q1, q2, fun b hb => List.mem_append_right _ (q3 b hb)⟩
  unfold atI at e ⊢
  rw [h.len]
  cases hj : ixN xs.length k with
  | none => rw [hj] at e; cases e
  | some j =>
    rw [hj] at e
    obtain ⟨v, F', q1, q2, q3⟩ := go h e
    exact ⟨v, F', q1, q2, q3⟩
theorem At.ho {v : V} {x : Dt} {ks : List Int} {w : V} {y : Dt} (h : At H v x ks w y) : ∀ {F : List Addr}, Ho K H v x F → ∃ F', Ho K H w y F' ∧ ∀ b ∈ F', b ∈ F := by
  induction h with
  | nil => exact fun h => ⟨_, h, fun _ z => z⟩
  | cons q1 q2 q3 _ ih =>
    intro F h
    cases h with
    | l h1 h2 =>
      rw [q1] at h1; cases h1
      obtain ⟨v', F', e1, e2, e3⟩ := atI_ho h2 q3
      rw [q2] at e1; cases e1
      obtain ⟨F2, z1, z2⟩ := ih e2
      exact ⟨F2, z1, fun b hb => List.mem_cons_of_mem _ (e3 b (z2 b hb))⟩
theorem At.stay {v : V} {x : Dt} {ks : List Int} {w : V} {y : Dt} (h : At H v x ks w y) : ∀ {F : List Addr}, Ho K H v x F → (∀ b ∈ F, H' b = H b) → At H' v x ks w y := by
  induction h with
  | nil => exact fun _ _ => .nil
  | cons q1 q2 q3 _ ih =>
    intro F h k
    cases h with
    | l h1 h2 =>
      have h1' := h1
      rw [q1] at h1'; cases h1'
      obtain ⟨v', F', e1, e2, e3⟩ := atI_ho h2 q3
      rw [q2] at e1; cases e1
      exact .cons ((k _ List.mem_cons_self).trans h1) q2 q3 (ih e2 fun b hb => k b (List.mem_cons_of_mem _ (e3 b hb)))
/-- held besides: its lists stay as they were -/
theorem held_same {v : V} {x : Dt} {F F1 : List Addr} (h : Ho K H v x F1) (k : ∀ b ∈ F1, ∀ i, b ∉ G i) (a : Evo H M G H' M' G' F) : ∀ b ∈ F1, H' b = H b := fun b hb => by
  obtain ⟨xs, q, _⟩ := h.lists b hb
  rw [q]; exact a.pres b _ q (k b hb)
theorem path_ok {i : Nat} {v0 : V} {x0 : Dt} {F0 : List Addr} (hv : σ[i]? = some (some v0)) : ∀ (fs : List (Ev → Ou Vl)) {ks : List Int} {r r' : Ev} {M : Addr → Prop} {G : Nat → List Addr} {H : Hp} {y : Dt} {Q : VK}, ER K r σ G M H → Ho K H v0 x0 F0 → (∀ b ∈ F0, M b ∧ ∀ j, b ∉ G j) → evK fs r = some (ks, r') → getP x0 ks = some y →
    (∀ w H' M' G' F, ER K r' σ G' M' H' → Evo H M G H' M' G' F → Ho K H' v0 x0 F0 → (∀ b ∈ F0, M' b ∧ ∀ j, b ∉ G' j) → (∀ b ∈ F0, H' b = H b) → At H' v0 x0 ks w y → Q w H') → tPath K cl W i fs σ H Q
  | [], ks, r, r', M, G, H, y, Q, e, h0, k0, he, hg, q => by
    cases he
    cases hg
    exact ⟨v0, hv, q _ _ _ _ _ e .refl h0 k0 (fun _ _ => rfl) .nil⟩
  | f :: fs, ks, r, r', M, G, H, y, Q, e, h0, k0, he, hg, q => by
    simp only [evK] at he
    cases h1 : evK fs r with
    | none => rw [h1] at he; cases he
    | some p1 =>
      obtain ⟨ks1, r1⟩ := p1
      rw [h1] at he
      simp only at he
      cases hf : f r1 with
      | no => rw [hf] at he; cases he
      | ex c fs r2 => rw [hf] at he; cases he
      | ok kd r2 =>
        obtain ⟨kd, mk⟩ := kd
        rw [hf] at he
        cases kd with
        | i k =>
          simp only [Option.some.injEq, Prod.mk.injEq] at he
          obtain ⟨rfl, rfl⟩ := he
          have gp : ∀ {x : Dt} {ks1 : List Int}, getP x (ks1 ++ [k]) = some y → ∃ xs, getP x ks1 = some (.l xs) ∧ atI xs k = some y := by
            intro x ks1
            induction ks1 generalizing x with
            | nil =>
              intro h
              cases x with
              | l xs =>
                simp only [List.nil_append, getP] at h
                cases hx : atI xs k with
                | none => rw [hx] at h; cases h
                | some z => rw [hx] at h; exact ⟨xs, rfl, by rw [hx]; simpa [getP] using h⟩
              | _ => simp [getP] at h
            | cons k1 ks1 ih =>
              intro h
              cases x with
              | l xs =>
                simp only [List.cons_append, getP] at h ⊢
                cases hx : atI xs k1 with
                | none => rw [hx] at h; cases h
                | some z => rw [hx] at h; exact ih h
              | _ => simp [getP] at h
          obtain ⟨xs, g1, g2⟩ := gp hg
          show tPath K cl W i fs σ H _
          refine path_ok hv fs e h0 k0 h1 g1 fun w H1 M1 G1 F1 e1 v1 o1 k1 s1 a1 => ?_
          obtain ⟨Fw, hw, sw⟩ := a1.ho o1
          cases hw with
          | @l a us _ F2 hh c =>
            refine ⟨r1, M1, G1, e1, ?_⟩
            rw [hf]
            intro u H2 M2 G2 F3 p
            have hu : u = .int k := by
              obtain ⟨_, _, _, c⟩ := p.giveUp e1.hot
              exact c.int
            subst hu
            have s2 := held_same o1 (fun b hb => (k1 b hb).2) p.ev
            obtain ⟨rp2, k2, _⟩ := Rp.evo (m := .a) o1 k1 e1 p.ev
            obtain ⟨z, F', e4, e5, e6⟩ := atI_ho c g2
            have hh2 : H2 a = some (.lst us) := (s2 a (sw a List.mem_cons_self)).trans hh
            exact ⟨a, us, k, z, rfl, rfl, .inl (.inl hh2), e4, q z H2 M2 G2 F3 p.er (v1.trans e.hot p.ev) rp2 k2 (fun b hb => (s2 b hb).trans (s1 b hb)) ((a1.stay o1 s2).snoc hh2 e4 g2)⟩
        | _ => cases he
theorem ho_ap {l : Addr} {zs : List V} {ys : List Dt} {w : V} {y : Dt} {v : V} {x : Dt} {ks : List Int} {u : V} {t : Dt} (h : At H v x ks u t) (hu : u = .ref l) (ht : t = .l ys) (hl : H l = some (.lst zs)) (hy : Ho K H w y []) : ∀ {F : List Addr}, Ho K H v x F → F.Nodup → ys.length < LIM →
    ∃ x', apP y x ks = some x' ∧ Ho K (upd H l (.lst (zs ++ [w]))) v x' F ∧ l ∈ F := by
  have hup : ∀ {v : V} {x : Dt} {F : List Addr}, Ho K H v x F → l ∉ F → Ho K (upd H l (.lst (zs ++ [w]))) v x F := fun h n => h.up hl n
  induction h with
  | nil =>
    intro F h nd hL
    subst hu; subst ht
    cases h with
    | l h1 h2 =>
      rw [hl] at h1; cases h1
      obtain ⟨n1, n2⟩ := List.nodup_cons.mp nd
      refine ⟨.l (ys ++ [y]), by simp [apP, hL], .l upd_same ?_, List.mem_cons_self⟩
      have := (h2.snoc hy).up (u := .lst (zs ++ [w])) hl (by simpa using n1)
      simpa using this
  | @cons a us xs k ks v' w' x' y' q1 q2 q3 q4 ih =>
    intro F h nd hL
    cases h with
    | @l _ _ _ F1 h1 h2 =>
      rw [q1] at h1; cases h1
      obtain ⟨n1, n2⟩ := List.nodup_cons.mp nd
      unfold atI at q2 q3
      rw [h2.len] at q2
      cases hj : ixN xs.length k with
      | none => rw [hj] at q3; cases q3
      | some j =>
        rw [hj] at q2 q3
        have q2 : us[j]? = some v' := q2
        have q3 : xs[j]? = some x' := q3
        have go : ∀ {us : List V} {xs : List Dt} {F : List Addr} {j : Nat}, HoL K H us xs F → F.Nodup → us[j]? = some v' → xs[j]? = some x' → ∃ x2, apP y x' ks = some x2 ∧ HoL K (upd H l (.lst (zs ++ [w]))) us (xs.set j x2) F ∧ l ∈ F := by
          intro us
          induction us with
          | nil => intro xs F j h _ e; cases h; simp at e
          | cons u us ihu =>
            intro xs F j h nd e1 e2
            cases h with
            | @cons _ _ _ _ Fa Fb h1 h2 =>
              obtain ⟨m1, m2, m3⟩ := List.nodup_append.mp nd
              cases j with
              | zero =>
                simp at e1 e2
                subst e1; subst e2
                obtain ⟨x2, z1, z2, z3⟩ := ih hu ht h1 m1 hL
                exact ⟨x2, z1, .cons z2 (h2.up hl fun hb => m3 _ z3 _ hb rfl), List.mem_append_left _ z3⟩
              | succ j =>
                obtain ⟨x2, z1, z2, z3⟩ := ihu h2 m2 (j := j) (by simpa using e1) (by simpa using e2)
                exact ⟨x2, z1, .cons (hup h1 fun hb => m3 _ hb _ z3 rfl) z2, List.mem_append_right _ z3⟩
        obtain ⟨x2, z1, z2, z3⟩ := go h2 n2 q2 q3
        have la : a ≠ l := fun q => n1 (q ▸ z3)
        refine ⟨.l (xs.set j x2), by simp [apP, hj, q3, z1], .l (by rw [upd_ne la]; exact q1) z2, List.mem_cons_of_mem _ z3⟩
/-- name[e]..[e].append(f), all lists of the name owned; what is added is flat -/
def sApN (i : Nat) (fs : List (Ev → Ou Vl)) (f : Ev → Ou Vl) : Ev → So := fun r => match r[i]? with
  | some (some (x0, .a)) => match evK fs (r.set i none) with
    | some (ks, r1) => match getP x0 ks with
      | some (.l ys) => match f r1 with
        | .ok (y, _) r2 => if y.flat = true ∧ ys.length < LIM then match apP y x0 ks with
            | some x' => .nx (r2.set i (some (x', .a)))
            | none => .no
          else .no
        | _ => .no
      | _ => .no
    | none => .no
  | _ => .no
end
section
variable {X : Cx} {cl : Str → Addr} {W : WX} {io : Bool}
theorem js_apN {o a : Expr} {f : Ev → Ou Vl} {fs : List (Ev → Ou Vl)} {ap cp pos : Pos} {i : Nat} (ho : JPa X cl W o i fs) (ha : JE X cl W a f) (hbase : attributeBase o "append" X.env (eval o X.env) = eval o X.env := by rfl)
    (hfew : ((backTo cp (starEach [a] X.env)).all (fun x => !x.1) && (backToKw cp (keywordEach [] X.env)).all (fun x => x.1.isSome) && decide (([a] : List Expr).length + ([] : List Keyword).length + (if ([] : List Keyword).isEmpty then 0 else 1) < 30)) = true := by rfl)
    (hline : (ap.endLine == cp.line) = true := by rfl) (hs : starEach [a] X.env = (false, eval a X.env) :: starEach [] X.env := by rfl) (hplain : (backTo cp (starEach [] X.env)).any (·.1) = false := by rfl) (hsw : swapsWith (.Call (.Attribute o "append" ap) [a] [] cp) none pos.line X.env = pure false := by rfl) :
    JS X cl W io (.Expr (.Call (.Attribute o "append" ap) [a] [] cp) pos) (sApN i fs f) := fun tk =>
  (ps_expr (pe_bm PySem.F.plainAttrs_list PySem.F.slot_list_append PySem.F.type_list_append mt_append (ho tk) (pa_cons (ha tk) pa_nil hs) hbase hfew hline hs hplain) hsw).yimp fun D σ H ⟨r, M, G, e, q⟩ => by
    simp only [sApN] at q
    split at q
    · rename_i x0 hr
      obtain ⟨v0, hv, rp0⟩ := e.at_ i x0 .a hr
      have rp0 : Ho X.K H v0 x0 (G i) := rp0
      split at q
      · rename_i ks r1 hk
        split at q
        · rename_i ys hg
          have ed := e.drop i
          have kd : ∀ b ∈ G i, M b ∧ ∀ j, b ∉ (fun j => if j = i then [] else G j) j := fun b hb => ⟨e.sub i b hb, fun j hj => by
            by_cases z : j = i
            · simp [z] at hj
            · simp only [if_neg z] at hj
              exact e.dj j i z b hj hb⟩
          refine path_ok hv fs ed rp0 kd hk hg fun w H1 M1 G1 F1 e1 v1 o1 k1 s1 a1 => ?_
          obtain ⟨Fw, hw, sw⟩ := a1.ho o1
          cases hw with
          | @l l us _ F2 hh c =>
            refine ⟨ty_list hh, r1, M1, G1, e1, ?_⟩
            cases hf : f r1 with
            | no => rw [hf] at q; exact q.elim
            | ex c fs r2 => rw [hf] at q; exact q.elim
            | ok ym r2 =>
              obtain ⟨y, my⟩ := ym
              rw [hf] at q
              simp only at q
              split at q
              · rename_i hc
                intro u H2 M2 G2 F3 p
                obtain ⟨rp2, k2, _⟩ := Rp.evo (m := .a) o1 k1 e1 p.ev
                have rp2 : Ho X.K H2 v0 x0 (G i) := rp2
                have s2 := held_same o1 (fun b hb => (k1 b hb).2) p.ev
                have hh2 : H2 l = some (.lst us) := (s2 l (sw l List.mem_cons_self)).trans hh
                have hy : Ho X.K H2 u y [] := by
                  obtain ⟨_, _, _, c⟩ := p.giveUp e1.hot
                  exact c.ho hc.1
                obtain ⟨x', z1, z2, z3⟩ := ho_ap (a1.stay o1 s2) rfl rfl hh2 hy rp2 (e.nd i) hc.2
                rw [z1] at q
                refine ⟨l, us, u, rfl, rfl, hh2, by rw [c.len]; exact lim_lt hc.2, ?_⟩
                have lM := (k2 l z3).1
                have e3 : ER X.K r2 σ G2 M2 (upd H2 l (.lst (us ++ [u]))) := p.er.evoF (fun b o h z => by
                  have : b ≠ l := fun y => by
                    rcases z with z | ⟨j, z⟩
                    · exact z (y ▸ lM)
                    · exact (k2 l z3).2 j (y ▸ z)
                  rw [upd_ne this]; exact h) (fun b z => .inl z) (fun j b hb => p.er.sub j b hb) (hot_up p.er.hot)
                have e4 := put_back hv e3 (m := .a) z2 (e.nd i) k2
                have v2 := v1.trans ed.hot p.ev
                have gd : ∀ {b : Addr} {j : Nat}, b ∈ (fun j => if j = i then [] else G j) j → b ∈ G j := fun {b j} hb => by
                  by_cases z : j = i
                  · simp [z] at hb
                  · simpa [z] using hb
                have nl : ∀ {b : Addr}, (∀ j, b ∉ G j) → b ≠ l := fun {b} hb z => hb i (z ▸ z3)
                exact q σ _ M2 _ ⟨e4, ⟨fun b o h hb => by rw [upd_ne (nl hb)]; exact v2.pres b o h fun j hj => hb j (gd hj), fun b h => by
                  by_cases z : b = l
                  · rw [z, upd_same] at h; cases h
                  · rw [upd_ne z] at h; exact v2.dom b h, v2.grow, fun b h hb => v2.keep b h fun j hj => hb j (gd hj), fun j b hb => by
                  by_cases z : j = i
                  · simp only [if_pos z] at hb; exact .inl ⟨i, hb⟩
                  · simp only [if_neg z] at hb
                    exact (v2.env j b hb).imp (fun ⟨j', z'⟩ => ⟨j', gd z'⟩) id, fun _ z => nomatch z⟩, fun _ => rfl⟩
              · exact q.elim
        · exact q.elim
      · exact q.elim
    · exact q.elim
end
end Y
namespace Y
open PySem L2 PyProof.Rows
section
variable {K : PySem.W.Frag} {cl : Str → Addr} {W : WX} {io : Bool} {M M' M0 : Addr → Prop} {H H' H0 : Hp} {G G' G0 : Nat → List Addr} {r r' : Ev} {σ σ0 : L2.St} {D : Ends}
/-- a value given up, told as before -/
theorem PX.cold {v : V} {x : Dt} {m : Md} {F : List Addr} (ht : Hotty M H) (p : PX K r' σ H M G v x m H' M' G' F) : ∃ M2, PX K r' σ H M G v x .c H' M2 G' [] := by
  obtain ⟨M2, e2, v2, c2⟩ := p.giveUp ht
  exact ⟨M2, e2, v2, ⟨c2, rfl⟩, List.nodup_nil, fun _ z => nomatch z⟩
/-- name.extend(f), the name's list owned -/
def sExt (i : Nat) (f : Ev → Ou Vl) : Ev → So := fun r => if isL i r then sWith f (fun y r1 => match y.1, r1[i]? with
    | .l ys, some (some (.l xs, .t)) => if xs.length + ys.length ≤ LIM then .nx (r1.set i (some (.l (xs ++ ys), .t))) else .no
    | _, _ => .no) r else .no
theorem CoL.app' : ∀ {us vs : List V} {xs ys : List Dt}, CoL K M H us xs → CoL K M H vs ys → CoL K M H (us ++ vs) (xs ++ ys)
  | _, _, _, _, .nil, h => h
  | _, _, _, _, .cons h1 h2, h => .cons h1 (CoL.app' h2 h)
/-- one's own list is given other items -/
theorem own_go {i : Nat} {xs : List Dt} {v : V} (e : ER K r σ G M H) (hr : r[i]? = some (some (.l xs, .t))) (hv : σ[i]? = some (some v)) :
    ∃ a us, v = .ref a ∧ H a = some (.lst us) ∧ CoL K M H us xs ∧ a ∈ G i ∧ ∀ {ws : List V} {ys : List Dt}, CoL K M H ws ys → ER K (r.set i (some (.l ys, .t))) σ (fun j => if j = i then G i else G j) M (upd H a (.lst ws)) := by
  obtain ⟨v', hv', rpx⟩ := e.at_ i _ _ hr
  rw [hv] at hv'; cases hv'
  obtain ⟨a, us, zs, rfl, hz, hg, h3, c0⟩ := rpx
  cases hz
  have aG : a ∈ G i := by rw [hg]; simp
  have aM := e.sub i a aG
  refine ⟨a, us, rfl, h3, c0, aG, fun {ws ys} c => ?_⟩
  rw [hg]
  refine e.wr hv (fun b o h hb => by rw [upd_ne fun q => hb (by rw [q]; exact aG)]; exact h) (fun b z => .inl z) (fun j b _ hb => e.sub j b hb) (hot_up e.hot) ⟨a, ws, ys, rfl, rfl, rfl, upd_same, c.fm (fm_up e.hot aM h3)⟩ (by simp) fun b hb => ?_
  rw [List.mem_singleton.mp hb]
  exact ⟨aM, fun j hj z => e.dj j i hj a z aG⟩
end
section
variable {X : Cx} {cl : Str → Addr} {W : WX} {io : Bool}
theorem js_ext {o a : Expr} {f : Ev → Ou Vl} {ap cp pos : Pos} (i : Nat) (ho : PE X o (tVar i)) (ha : JE X cl W a f) (hbase : attributeBase o "extend" X.env (eval o X.env) = eval o X.env := by rfl)
    (hfew : ((backTo cp (starEach [a] X.env)).all (fun x => !x.1) && (backToKw cp (keywordEach [] X.env)).all (fun x => x.1.isSome) && decide (([a] : List Expr).length + ([] : List Keyword).length + (if ([] : List Keyword).isEmpty then 0 else 1) < 30)) = true := by rfl)
    (hline : (ap.endLine == cp.line) = true := by rfl) (hs : starEach [a] X.env = (false, eval a X.env) :: starEach [] X.env := by rfl) (hplain : (backTo cp (starEach [] X.env)).any (·.1) = false := by rfl) (hsw : swapsWith (.Call (.Attribute o "extend" ap) [a] [] cp) none pos.line X.env = pure false := by rfl) :
    JS X cl W io (.Expr (.Call (.Attribute o "extend" ap) [a] [] cp) pos) (sExt i f) := fun tk =>
  (ps_expr (pe_bm PySem.F.plainAttrs_list PySem.F.slot_list_extend PySem.F.type_list_extend mt_extend ho (pa_cons (ha tk) pa_nil hs) hbase hfew hline hs hplain) hsw).yimp fun D σ H ⟨r, M, G, e, q⟩ => by
    simp only [sExt] at q
    split at q
    · rename_i hL
      obtain ⟨a0, us0, hv0, hh0⟩ := e.isL' hL
      refine ⟨.ref a0, hv0, ty_list hh0, ?_⟩
      refine tIS_with (f := f) ⟨r, M, G, e, q⟩ fun r M G y m r' w H' M' G' F e p k => ?_
      obtain ⟨M2, p2⟩ := p.cold e.hot
      simp only at k
      split at k
      · rename_i ys xs hr
        split at k
        · rename_i hc
          obtain ⟨b, zs, rfl, h1, q1⟩ := p2.rp.1.lst
          obtain ⟨a, us, h2, h3, c0, aG, e3⟩ := own_go p2.er hr hv0
          cases h2
          have e4 := e3 (c0.app' q1)
          refine ⟨a0, b, us, zs, rfl, rfl, h3, h1, by rw [c0.len, q1.len]; exact lim_size hc, ?_⟩
          exact k σ _ M2 _ ⟨e4, ap_evo e p2 (fun b hb => .inl hb) (fun b z => z) (fun b z _ => z) aG, fun _ => rfl⟩
        · exact k.elim
      · exact k.elim
    · exact q.elim
/-- name.pop(f), the name's list owned -/
def mPop (i : Nat) (f : Ev → Ou Vl) : Ev → Ou Vl := fun r => if isL i r then match f r with
    | .ok (.i k, _) r1 => match r1[i]? with
      | some (some (.l xs, .t)) => if xs.length ≤ LIM then match seqIndex? k xs.length with
          | some j => match xs[j]? with
            | some y => .ok (y, .c) (r1.set i (some (.l (xs.eraseIdx j), .t)))
            | none => .no
          | none => .no
        else .no
      | _ => .no
    | .ok _ _ => .no
    | .ex c fs r1 => .ex c fs r1
    | .no => .no
  else .no
theorem CoL.erase {K : PySem.W.Frag} {M : Addr → Prop} {H : Hp} : ∀ {us : List V} {xs : List Dt} {j : Nat}, CoL K M H us xs → CoL K M H (us.eraseIdx j) (xs.eraseIdx j)
  | _, _, _, .nil => .nil
  | _, _, 0, .cons _ q => q
  | _, _, j + 1, .cons h q => .cons h (CoL.erase q)
/-- name.pop() -/
def mPop0 (i : Nat) : Ev → Ou Vl := fun r => match r[i]? with
  | some (some (.l xs, .t)) => match xs[xs.length - 1]? with
    | some y => .ok (y, .c) (r.set i (some (.l xs.dropLast, .t)))
    | none => .no
  | _ => .no
theorem CoL.last {K : PySem.W.Frag} {M : Addr → Prop} {H : Hp} : ∀ {us : List V} {xs : List Dt}, CoL K M H us xs → CoL K M H us.dropLast xs.dropLast
  | _, _, .nil => .nil
  | _, _, .cons _ .nil => .nil
  | _, _, .cons h (.cons h2 q) => .cons h (CoL.last (.cons h2 q))
inductive JH (X : Cx) (cl : Str → Addr) (W : WX) : List Expr → List (Ev → Ou Vl) → Prop
  | nil : JH X cl W [] []
  | cons {e : Expr} {es : List Expr} {f : Ev → Ou Vl} {fs : List (Ev → Ou Vl)} : JE X cl W e f → starEach (e :: es) X.env = (false, eval e X.env) :: starEach es X.env → JH X cl W es fs → JH X cl W (e :: es) (f :: fs)
theorem jh_n : JH X cl W [] [] := .nil
theorem JH.ja {es : List Expr} {fs : List (Ev → Ou Vl)} (h : JH X cl W es fs) : JA X cl W es (fs.map .e) := by
  induction h with
  | nil => exact .nil
  | cons h1 h2 _ ih => exact .cons h1 h2 ih
def mLstO (fs : List (Ev → Ou Vl)) : Ev → Ou Vl := fun r => match evH fs r with
  | .ok xs r1 => if xs.length ≤ LIM ∧ xs.all zfl = true then .ok (.l (xs.map (·.1)), .a) r1 else .no
  | .ex c fs r1 => .ex c fs r1
  | .no => .no
theorem HL.toA {K : PySem.W.Frag} {M : Addr → Prop} {H : Hp} : ∀ {vs : List V} {xs : List Vl} {F : List Addr}, HL K M H vs xs F → xs.all zfl = true → HoL K H vs (xs.map (·.1)) F
  | _, _, _, .nil, _ => .nil
  | _, _, _, .cons rp q, h => by
    simp only [List.all_cons, Bool.and_eq_true] at h
    exact .cons (rp.toA h.1) (HL.toA q h.2)
theorem je_lstO {es : List Expr} {fs : List (Ev → Ou Vl)} {pos : Pos} (h : JH X cl W es fs) : JE X cl W (.List es pos) (mLstO fs) := fun tk =>
  (pe_lst (h.ja.pa tk)).yimp fun σ H Q ⟨r, M, G, e, q⟩ => by
    refine tOs_hold fs e ?_
    simp only [mLstO] at q
    cases ha : evH fs r with
    | no => rw [ha] at q; exact q
    | ex c fs r1 => rw [ha] at q; exact q
    | ok xs r1 =>
      rw [ha] at q
      intro vs H1 M1 G1 F p
      simp only at q
      by_cases hc : xs.length ≤ LIM ∧ xs.all zfl = true
      case neg => rw [if_neg hc] at q; exact q.elim
      rw [if_pos hc] at q
      · have hl := p.hl.len
        refine ⟨by rw [hl]; exact lim_size hc.1, fun a hp => ?_⟩
        have nM : ¬ M1 a := fun z => by obtain ⟨zs, y, _⟩ := p.er.hot a z; rw [hp] at y; cases y
        have nF : a ∉ F := fun z => nM (p.hot a z).1
        have e2 : ER X.K r1 σ G1 (fun b => M1 b ∨ b = a) (upd H1 a (.lst vs)) := p.er.evoF (fun b o h _ => by rw [upd_ne (ne_of_none h hp)]; exact h) (fun b z => z.imp id fun z => by rw [z]; exact hp) (fun j b hb => .inl (p.er.sub j b hb)) fun b z => by
          by_cases y : b = a
          · rw [y]; exact ⟨_, upd_same, trivial⟩
          · rw [upd_ne y]
            exact p.er.hot b (z.resolve_right y)
        have hoL := (p.hl.toA hc.2).stay (H' := upd H1 a (.lst vs)) (fun b zs z => by
          rcases z with z | ⟨o, z⟩
          · exact .inl (by rw [upd_ne (ne_of_none z hp)]; exact z)
          · exact .inr ⟨o, by rw [upd_ne (ne_of_none z hp)]; exact z⟩) (fun b o u z => by rw [upd_ne (ne_of_none z hp)]; exact z) fun b hb => upd_ne fun y => nF (y ▸ hb)
        refine q (.ref a) _ (fun b => M1 b ∨ b = a) G1 (a :: F) ⟨e2, ⟨fun b o h hb {nt} => ?_, fun b h => ?_, fun b z => ?_, fun b h hb => .inl (p.ev.keep b h hb), p.ev.env, fun b hb => ?_⟩, .l upd_same hoL, List.nodup_cons.mpr ⟨nF, p.nd⟩, fun b hb => ?_⟩
        · have := p.ev.pres b o h hb
          rw [upd_ne (ne_of_none this hp)]; exact this
        · by_cases y : b = a
          · rw [y, upd_same] at h; cases h
          · rw [upd_ne y] at h; exact p.ev.dom b h
        · rcases z with z | z
          · exact p.ev.grow b z
          · exact .inr (p.ev.dom b (by rw [z]; exact hp))
        · rcases List.mem_cons.mp hb with y | hb
          · exact .inr (p.ev.dom b (by rw [y]; exact hp))
          · exact p.ev.res b hb
        · rcases List.mem_cons.mp hb with y | hb
          · exact ⟨.inr y, fun j hj => nM (p.er.sub j a (y ▸ hj))⟩
          · exact ⟨.inl (p.hot b hb).1, (p.hot b hb).2⟩
theorem je_gs {x : Str} {z : Str} {t : Nat} {pos : Pos} (hg : Gl X x) (hm : X.mg x = some (.str z t)) (hd : (x == ("__debug__" : Str)) = false := by decide) : JE X cl W (.Name x pos) (mK (.s z)) := je_k (pe_glob hg hm (show RelV (.str z) (.str z t) from ⟨t, rfl⟩) hd) fun _ _ => .s z
end
end Y
namespace Y
open PySem L2 PyProof.Rows
section
variable {K : PySem.W.Frag} {cl : Str → Addr} {W : WX} {M M' M1 M4 M5 : Addr → Prop} {H H' H1 H4 H5 : Hp} {G G' G1 G4 G5 : Nat → List Addr} {r r' r4 r5 : Ev} {σ σ' σ4 : L2.St}
/-- the list grows by one -/
theorem push_ok {vs : List Nat} {D : Addr} {acc : List Dt} {F F5 : List Addr} {w : V} {y : Dt} {my : Md} (ht : Hotty M1 H1) (newD : H1 D = none) (p4 : PX K r4 σ4 H1 M1 G1 (.ref D) (.l acc) .t H4 M4 G4 F) (q5 : PX K r5 σ4 H4 M4 G4 w y my H5 M5 G5 F5) :
    ∃ us M6 G6, H5 D = some (.lst us) ∧ us.length = acc.length ∧ PX K (wipeE r5 vs) (wipe σ4 vs) H1 M1 G1 (.ref D) (.l (acc ++ [y])) .t (upd H5 D (.lst (us ++ [w]))) M6 G6 F ∧ Fm M4 H4 M6 (upd H5 D (.lst (us ++ [w]))) ∧ ∀ b, upd H5 D (.lst (us ++ [w])) b = none → H4 b = none := by
  obtain ⟨p5, dis⟩ := p4.keeps ht q5.er q5.ev
  have mem : D ∈ F := by
    obtain ⟨a, us, zs, h1, _, h3, _⟩ := p5.rp
    cases h1
    rw [h3]
    exact List.mem_cons_self
  obtain ⟨us, F', hD5, hF, hul, _, ho2⟩ := Acc.at_ (own := false) ⟨p5.rp, mem⟩
  have hDM : M5 D ∧ ∀ j, D ∉ G5 j := p5.hot D mem
  have hDF : D ∉ F5 := dis D mem
  have stay : ∀ b o, H5 b = some o → b ≠ D → upd H5 D (.lst (us ++ [w])) b = some o := fun b o h q => by rw [upd_ne q]; exact h
  have ew5 := q5.er.wipe vs
  have gsub : ∀ j b, b ∈ (fun j => if j ∈ vs then [] else G5 j) j → b ∈ G5 j := fun j b hb => by
    by_cases q : j ∈ vs
    · simp [q] at hb
    · simpa [q] using hb
  have fm6 : Fm M5 H5 (fun b => M5 b ∧ b ∉ F5) (upd H5 D (.lst (us ++ [w]))) := ⟨fun b o h hn => stay b o h fun z => hn (by rw [z]; exact hDM.1), fun b z => .inl z.1, q5.er.hot⟩
  have e6 : ER K (wipeE r5 vs) (wipe σ4 vs) (fun j => if j ∈ vs then [] else G5 j) (fun b => M5 b ∧ b ∉ F5) (upd H5 D (.lst (us ++ [w]))) :=
    ew5.evoF (fun b o h z => stay b o h fun q => by
      rcases z with z | ⟨j, z⟩
      · exact z (by rw [q]; exact hDM.1)
      · exact hDM.2 j (by rw [← q]; exact gsub j b z)) (fun b z => .inl z.1) (fun j b hb => ⟨q5.er.sub j b (gsub j b hb), fun z => (q5.hot b z).2 j (gsub j b hb)⟩) fun b z => by
      by_cases q : b = D
      · rw [q]; exact ⟨_, upd_same, trivial⟩
      · rw [upd_ne q]; exact q5.er.hot b z.1
  have v5 : Evo H1 M1 G1 H5 M5 G5 (F ++ F5) := by
    have v6 : Evo H1 M1 G1 H4 M4 G4 [] := ⟨p4.ev.pres', p4.ev.dom, p4.ev.grow, p4.ev.keep, p4.ev.env, fun _ z => nomatch z⟩
    have v7 := v6.trans ht q5.ev
    exact ⟨v7.pres', v7.dom, v7.grow, v7.keep, v7.env, fun b hb => (List.mem_append.mp hb).elim (p5.ev.res b) (v7.res b)⟩
  have dom6 : ∀ b, upd H5 D (.lst (us ++ [w])) b = none → H5 b = none := fun b h => by
    by_cases q : b = D
    · rw [q, upd_same] at h; cases h
    · rw [upd_ne q] at h; exact h
  obtain ⟨c5, hF'⟩ := ho2 rfl
  have cw : Co K (fun b => M5 b ∧ b ∉ F5) H5 w y := q5.rp.cold q5.er.hot (fun b hb z => z.2 hb) fun b z => z.1
  refine ⟨us, _, _, hD5, hul, ⟨e6, ⟨fun b o h hb => stay b o (v5.pres b o h hb) fun q => (by rw [q, newD] at h; cases h), fun b h => v5.dom b (dom6 b h), fun b z => v5.grow b z.1, fun b h hb => ⟨v5.keep b h hb, fun z => ?_⟩, fun j b hb => v5.env j b (gsub j b hb), fun b hb => v5.res b (List.mem_append_left _ hb)⟩, ?_, p5.nd, fun b hb => ⟨⟨(p5.hot b hb).1, dis b hb⟩, fun j hj => (p5.hot b hb).2 j (gsub j b hj)⟩⟩, (p4.er.fm q5.ev).trans q5.ev.dom fm6, fun b h => q5.ev.dom b (dom6 b h)⟩
  · rcases v5.res b (List.mem_append_right _ z) with ⟨j, q⟩ | q
    · exact hb j q
    · obtain ⟨zs, q2, _⟩ := ht b h
      rw [q2] at q; cases q
  · exact ⟨D, us ++ [w], acc ++ [y], rfl, rfl, by rw [hF, hF'], upd_same, (c5.fm fm6).snoc (cw.fm ⟨fun b o h hn => stay b o h fun q => hn (by rw [q]; exact ⟨hDM.1, hDF⟩), fun b z => .inl z, fun b z => q5.er.hot b z.1⟩)⟩
/-- two generators -/
def lc2L (vs vs1 : List Nat) (t : Vl → Ev → Option Ev) (c : Ev → Ou Bool) (s1 : Ev → Ou (List Dt)) (t1 : Vl → Ev → Option Ev) (c1 : Ev → Ou Bool) (f : Ev → Ou Vl) : List Dt → Ev → List Dt → Ou (List Dt)
  | [], r, acc => .ok acc r
  | x :: xs, r, acc => match t (x, .c) r with
    | none => .no
    | some r1 => match c r1 with
      | .ok false r2 => lc2L vs vs1 t c s1 t1 c1 f xs (wipeE r2 vs) acc
      | .ok true r2 => match s1 r2 with
        | .ok ys r3 => if acc.length + ys.length ≤ LIM then
            match lcL vs1 t1 c1 f false ys (wipeE r3 vs1) acc with
            | .ok acc1 r4 => lc2L vs vs1 t c s1 t1 c1 f xs (wipeE r4 vs) acc1
            | _ => .no
          else .no
        | _ => .no
      | _ => .no
def mLc2 (vs vs1 : List Nat) (s : Ev → Ou (List Dt)) (t : Vl → Ev → Option Ev) (c : Ev → Ou Bool) (s1 : Ev → Ou (List Dt)) (t1 : Vl → Ev → Option Ev) (c1 : Ev → Ou Bool) (f : Ev → Ou Vl) : Ev → Ou Vl := fun r => match s r with
  | .ok xs r1 => match lc2L vs vs1 t c s1 t1 c1 f xs (wipeE r1 vs) [] with
    | .ok ys r2 => .ok (.l ys, .t) (rsE r1 vs r2)
    | _ => .no
  | .ex c fs r1 => .ex c fs r1
  | .no => .no
theorem wipe_sub {σ : L2.St} {vs vs1 : List Nat} (h : ∀ i ∈ vs1, i ∈ vs) : wipe (wipe σ vs1) vs = wipe σ vs := by
  apply List.ext_getElem?
  intro j
  rw [wipe_at, wipe_at, wipe_at]
  by_cases q : j ∈ vs
  · simp [q, wipe_length]
  · have : j ∉ vs1 := fun z => q (h j z)
    simp only [if_neg q, if_neg this]
theorem mLc2_ok {vs vs1 : List Nat} {s s1 : Ev → Ou (List Dt)} {t t1 : Vl → Ev → Option Ev} {c c1 : Ev → Ou Bool} {f : Ev → Ou Vl} {g g1 : TG} {Q : VK} (hg : TgOk K false g t) (hw : TgW g vs) (hg1 : TgOk K false g1 t1) (hw1 : TgW g1 vs1) (hv : ∀ i ∈ vs1, i ∈ vs) (h : tI K cl W (mLc2 vs vs1 s t c s1 t1 c1 f) σ H Q) :
    tLc2 (tII K cl W s) g (tIB K cl W0 c) (tII K cl W0 s1) g1 (tIB K cl W0 c1) (tI K cl W0 f) vs vs1 σ H Q := by
  obtain ⟨r, M, G, e, h⟩ := h
  refine ⟨r, M, G, e, ?_⟩
  simp only [mLc2] at h
  cases hs : s r with
  | no => rw [hs] at h; exact h
  | ex c fs r' => rw [hs] at h; exact h
  | ok xs r1 =>
    rw [hs] at h
    simp only at h
    cases hL : lc2L vs vs1 t c s1 t1 c1 f xs (wipeE r1 vs) [] with
    | no => rw [hL] at h; exact fun _ _ _ _ _ _ _ => h.elim
    | ex c fs r' => rw [hL] at h; exact fun _ _ _ _ _ _ _ => h.elim
    | ok ys r2 =>
    rw [hL] at h
    simp only at h
    intro J H1 M1 G1 e1 v1 so D hD
    have ew := e1.wipe vs
    have vw : Evo H1 M1 G1 H1 M1 (fun i => if i ∈ vs then [] else G1 i) [] := evo_drops vs
    refine ⟨fun i m H' => m = xs.length - i ∧ i ≤ xs.length ∧ ∃ r' M' G' acc F, PX K r' (wipe σ vs) H1 M1 G1 (.ref D) (.l acc) .t H' M' G' F ∧ (∀ j ∈ vs, ∀ x, r'[j]? ≠ some (some x)) ∧ lc2L vs vs1 t c s1 t1 c1 f (xs.drop i) r' acc = .ok ys r2, ⟨xs.length, by simp, Nat.zero_le _, ?_⟩, ?_⟩
    · have p0 : Mk K H1 M1 (.ref D) (.l []) .t (upd H1 D (.lst [])) [D] := mk_lst (K := K) ew.hot hD .nil
      obtain ⟨e', v', nM⟩ := p0.env ew
      exact ⟨_, _, _, [], [D], ⟨e', vw.trans e1.hot v', p0.rp, p0.nd, fun b hb => ⟨.inr hb, fun i hi => nM b hb (ew.sub i b hi)⟩⟩, fun j hj x q => (wipeE_at q).2 hj, by simpa using hL⟩
    · rintro i m H' ⟨rfl, hi, r', M', G', acc, F, p, hn, hl⟩
      have f' := e1.fm p.ev
      by_cases hlt : i < xs.length
      case neg =>
        have he : i = xs.length := by omega
        subst he
        rw [List.drop_length] at hl
        simp only [lc2L, Ou.ok.injEq] at hl
        obtain ⟨rfl, rfl⟩ := hl
        refine .inl ⟨so.stop M' H' f', h _ H' M' G' F ⟨?_, ?_, p.rp, p.nd, p.hot⟩⟩
        · refine ER.restore e1 f' vs hn (p.er.slots (wipe_length σ vs).symm fun j x v h1 h2 => ?_)
          rw [wipe_at] at h2
          by_cases q : j ∈ vs
          · exact absurd h1 (hn j q x)
          · simpa [q] using h2
        · exact v1.trans e.hot p.ev
      refine .inr ⟨so.go i M' H' hlt f', _, fun H2 q => ⟨xs.length - (i + 1), by omega, rfl, hlt, q⟩, fun v H2 y => ?_⟩
      have hx : xs[i]? = some xs[i] := by simp [hlt]
      obtain ⟨hgr, co⟩ := so.yld i xs[i] v M' H' H2 hx f' p.er.hot y
      obtain ⟨e2, v2⟩ := p.er.grown hgr
      obtain ⟨p2, _⟩ := p.keeps e1.hot e2 v2
      rw [List.drop_eq_getElem_cons hlt] at hl
      simp only [lc2L] at hl
      cases hk : t (xs[i], .c) r' with
      | none => rw [hk] at hl; cases hl
      | some r3 =>
      rw [hk] at hl
      simp only at hl
      refine hw v (wipe σ vs) H2 (fun σ3 H3 => ∃ M3 G3, Tx K false r3 (wipe σ vs) σ3 H2 M' G' H3 M3 G3) _ (fun σ3 H3 we ⟨M3, G3, t3⟩ => ?_) (hg.cold e2 co hk fun σ3 H3 M3 G3 t3 => ⟨M3, G3, t3⟩)
      rw [wipe_wipe] at we
      refine ⟨we, r3, M3, G3, t3.er, ?_⟩
      obtain ⟨p3, _⟩ := p2.keeps e1.hot t3.er t3.evo
      cases hc : c r3 with
      | no => rw [hc] at hl; cases hl
      | ex c fs r4 => rw [hc] at hl; cases hl
      | ok k r4 =>
      rw [hc] at hl
      intro H4 M4 G4 e4 v4
      obtain ⟨p4, _⟩ := p3.keeps e1.hot e4 v4
      cases k with
      | false =>
        rw [if_neg Bool.false_ne_true]
        simp only at hl
        have e5 := e4.wipe vs
        rw [we] at e5
        obtain ⟨p5, _⟩ := p4.keeps e1.hot e5 (evo_drops vs)
        exact ⟨_, _, _, acc, F, p5, fun j hj x q => (wipeE_at q).2 hj, hl⟩
      | true =>
        rw [if_pos rfl]
        simp only at hl
        cases hs1 : s1 r4 with
        | no => rw [hs1] at hl; cases hl
        | ex c fs r5 => rw [hs1] at hl; cases hl
        | ok zs r5 =>
        rw [hs1] at hl
        simp only at hl
        by_cases hz : acc.length + zs.length ≤ LIM
        case neg => rw [if_neg hz] at hl; cases hl
        rw [if_pos hz] at hl
        cases hL1 : lcL vs1 t1 c1 f false zs (wipeE r5 vs1) acc with
        | no => rw [hL1] at hl; cases hl
        | ex c fs r6 => rw [hL1] at hl; cases hl
        | ok acc1 r6 =>
        rw [hL1] at hl
        simp only at hl
        refine ⟨r4, M4, G4, e4, ?_⟩
        rw [hs1]
        intro J1 H5 M5 G5 e5 v5 so1
        obtain ⟨p5, _⟩ := p4.keeps e1.hot e5 v5
        have ew5 := e5.wipe vs1
        obtain ⟨p5w, _⟩ := p5.keeps e1.hot ew5 (evo_drops vs1)
        refine ⟨fun j k H' => k = zs.length - j ∧ j ≤ zs.length ∧ ∃ r' M' G' acc' F', PX K r' (wipe σ3 vs1) H1 M1 G1 (.ref D) (.l acc') .t H' M' G' F' ∧ acc'.length ≤ acc.length + j ∧ Fm M5 H5 M' H' ∧ (∀ b, H' b = none → H5 b = none) ∧ lcL vs1 t1 c1 f false (zs.drop j) r' acc' = .ok acc1 r6, ⟨zs.length, by simp, Nat.zero_le _, _, _, _, acc, _, p5w, by omega, ⟨fun _ _ h _ => h, fun _ h => .inl h, e5.hot⟩, fun _ h => h, by simpa using hL1⟩, ?_⟩
        rintro j k H6 ⟨rfl, hj, r7, M7, G7, acc7, F7, p7, ha7, fm7, dm7, hl7⟩
        by_cases hlt1 : j < zs.length
        case neg =>
          have he : j = zs.length := by omega
          subst he
          rw [List.drop_length] at hl7
          simp only [lcL, Ou.ok.injEq] at hl7
          obtain ⟨rfl, rfl⟩ := hl7
          have e8 := p7.er.wipe vs
          rw [wipe_sub hv, we] at e8
          obtain ⟨p8, _⟩ := p7.keeps e1.hot e8 (evo_drops vs)
          exact .inl ⟨so1.stop M7 H6 fm7, _, _, _, acc7, F7, p8, fun j hj x q => (wipeE_at q).2 hj, hl⟩
        refine .inr ⟨so1.go j M7 H6 hlt1 fm7, _, fun H' q => ⟨zs.length - (j + 1), by omega, rfl, hlt1, q⟩, fun v1 H8 y1 => ?_⟩
        have hz1 : zs[j]? = some zs[j] := by simp [hlt1]
        obtain ⟨hgr1, co1⟩ := so1.yld j zs[j] v1 M7 H6 H8 hz1 fm7 p7.er.hot y1
        obtain ⟨e8, v8⟩ := p7.er.grown hgr1
        obtain ⟨p8, _⟩ := p7.keeps e1.hot e8 v8
        have fm8 : Fm M5 H5 M7 H8 := fm7.trans dm7 (p7.er.fm v8)
        have dm8 : ∀ b, H8 b = none → H5 b = none := fun b h => dm7 b (v8.dom b h)
        rw [List.drop_eq_getElem_cons hlt1] at hl7
        simp only [lcL] at hl7
        cases hk1 : t1 (zs[j], .c) r7 with
        | none => rw [hk1] at hl7; cases hl7
        | some r9 =>
        rw [hk1] at hl7
        simp only at hl7
        refine hw1 v1 (wipe σ3 vs1) H8 (fun σ9 H9 => ∃ M9 G9, Tx K false r9 (wipe σ3 vs1) σ9 H8 M7 G7 H9 M9 G9) _ (fun σ9 H9 we1 ⟨M9, G9, t9⟩ => ?_) (hg1.cold e8 co1 hk1 fun σ9 H9 M9 G9 t9 => ⟨M9, G9, t9⟩)
        rw [wipe_wipe] at we1
        refine ⟨we1, r9, M9, G9, t9.er, ?_⟩
        obtain ⟨p9, _⟩ := p8.keeps e1.hot t9.er t9.evo
        have fm9 : Fm M5 H5 M9 H9 := fm8.trans dm8 (e8.fm t9.evo)
        have dm9 : ∀ b, H9 b = none → H5 b = none := fun b h => dm8 b (t9.evo.dom b h)
        cases hc1 : c1 r9 with
        | no => rw [hc1] at hl7; cases hl7
        | ex c fs r10 => rw [hc1] at hl7; cases hl7
        | ok k r10 =>
        rw [hc1] at hl7
        intro H10 M10 G10 e10 v10
        obtain ⟨p10, _⟩ := p9.keeps e1.hot e10 v10
        have fm10 : Fm M5 H5 M10 H10 := fm9.trans dm9 (t9.er.fm v10)
        have dm10 : ∀ b, H10 b = none → H5 b = none := fun b h => dm9 b (v10.dom b h)
        cases k with
        | false =>
          rw [if_neg Bool.false_ne_true]
          simp only at hl7
          have e11 := e10.wipe vs1
          rw [we1] at e11
          obtain ⟨p11, _⟩ := p10.keeps e1.hot e11 (evo_drops vs1)
          exact ⟨_, _, _, acc7, F7, p11, by omega, fm10, dm10, hl7⟩
        | true =>
          rw [if_pos rfl]
          simp only at hl7
          refine ⟨r10, M10, G10, e10, ?_⟩
          cases hf : f r10 with
          | no => rw [hf] at hl7; cases hl7
          | ex c fs r11 => rw [hf] at hl7; cases hl7
          | ok ym r11 =>
          obtain ⟨y, my⟩ := ym
          rw [hf] at hl7
          simp only [Bool.false_and, Bool.false_eq_true, if_false] at hl7
          intro w H11 M11 G11 F11 q11
          obtain ⟨us, M12, G12, hD12, hul, p12, fm12, dm12⟩ := push_ok (vs := vs1) e1.hot hD p10 q11
          rw [we1] at p12
          exact ⟨us, hD12, by rw [hul]; exact Nat.lt_of_lt_of_le (by omega) (lim_size hz), _, M12, G12, acc7 ++ [y], F7, p12, by simp; omega, fm10.trans dm10 fm12, fun b h => dm10 b (dm12 b h), hl7⟩
end
section
variable {X : Cx} {cl : Str → Addr} {W : WX} {io : Bool}
theorem je_lc2 {elt tg iter tg1 iter1 : Expr} {ifs ifs1 : List Expr} {scope : Scope} {own : List (Str × Nat)} {vs1 : List Nat} {pos : Pos} {s s1 : Ev → Ou (List Dt)} {g g1 : TG} {t t1 : Vl → Ev → Option Ev} {c c1 : Ev → Ou Bool} {f : Ev → Ou Vl} (hc : X.calm = true) (hN : X.N.Nodup) (hi : JI X cl W tg iter s) (ok : BlkOk X.N X.env.scope scope own) (hv : ∀ i ∈ vs1, i ∈ own.map (·.2))
    (hg : ∀ (s : Shared) (H : Hp) (C : Addr) (cl : List (Str × Addr)) (fp : List Addr), PG (X.blk s H scope (compEnvC scope cl C X.env) fp) tg g) (hgt : TgOk X.K false g t) (hgw : TgW g (own.map (·.2)))
    (ht : ∀ (s : Shared) (H : Hp) (C : Addr) (cl2 : List (Str × Addr)) (fp : List Addr), PTs (X.blk s H scope (compEnvC scope cl2 C X.env) fp) ifs (tIB X.K cl W0 c))
    (hi1 : ∀ (s : Shared) (H : Hp) (C : Addr) (cl2 : List (Str × Addr)) (fp : List Addr), JI (X.blk s H scope (compEnvC scope cl2 C X.env) fp) cl W0 tg1 iter1 s1)
    (hg1 : ∀ (s : Shared) (H : Hp) (C : Addr) (cl : List (Str × Addr)) (fp : List Addr), PG (X.blk s H scope (compEnvC scope cl C X.env) fp) tg1 g1) (hg1t : TgOk X.K false g1 t1) (hg1w : TgW g1 vs1)
    (ht1 : ∀ (s : Shared) (H : Hp) (C : Addr) (cl2 : List (Str × Addr)) (fp : List Addr), PTs (X.blk s H scope (compEnvC scope cl2 C X.env) fp) ifs1 (tIB X.K cl W0 c1))
    (he : ∀ (s : Shared) (H : Hp) (C : Addr) (cl2 : List (Str × Addr)) (fp : List Addr), JE (X.blk s H scope (compEnvC scope cl2 C X.env) fp) cl W0 elt f) (hs : ∀ x, foldedSetIterable iter X.env x = pure x := by intro _; rfl) (hs1 : ∀ env x, foldedSetIterable iter1 env x = pure x := by intro _ _; rfl) :
    JE X cl W (.ListComp elt [⟨tg, iter, ifs, 0⟩, ⟨tg1, iter1, ifs1, 0⟩] scope pos) (mLc2 (own.map (·.2)) vs1 s t c s1 t1 c1 f) := fun tk =>
  (pe_lc2 hc hN (hi tk) ok hv hg ht (fun s H C cl2 fp => hi1 s H C cl2 fp takes0) hg1 ht1 (fun s H C cl2 fp => he s H C cl2 fp takes0) hs hs1).yimp fun σ H Q q => mLc2_ok hgt hgw hg1t hg1w hv q
theorem js_setLc2 {elt tg iter tg1 iter1 : Expr} {ifs ifs1 : List Expr} {scope : Scope} {own : List (Str × Nat)} {vs1 : List Nat} {pos spos : Pos} {i : Nat} {y : Str} {py : Pos} {s s1 : Ev → Ou (List Dt)} {g g1 : TG} {t t1 : Vl → Ev → Option Ev} {c c1 : Ev → Ou Bool} {f : Ev → Ou Vl} (hc : X.calm = true) (hN : X.N.Nodup) (hy : X.N[i]? = some y) (hyl : X.env.scope.names.lookup y = some .local)
    (hsw : swapsWith (.ListComp elt [⟨tg, iter, ifs, 0⟩, ⟨tg1, iter1, ifs1, 0⟩] scope pos) (some (.Name y py)) spos.line X.env = pure true) (hio : io = true → i ≠ 0) (hi : JI X cl W tg iter s) (ok : BlkOk X.N X.env.scope scope own) (hv : ∀ i ∈ vs1, i ∈ own.map (·.2))
    (hg : ∀ (s : Shared) (H : Hp) (C : Addr) (cl : List (Str × Addr)) (fp : List Addr), PG (X.blk s H scope (compEnvC scope cl C X.env) fp) tg g) (hgt : TgOk X.K false g t) (hgw : TgW g (own.map (·.2)))
    (ht : ∀ (s : Shared) (H : Hp) (C : Addr) (cl2 : List (Str × Addr)) (fp : List Addr), PTs (X.blk s H scope (compEnvC scope cl2 C X.env) fp) ifs (tIB X.K cl W0 c))
    (hi1 : ∀ (s : Shared) (H : Hp) (C : Addr) (cl2 : List (Str × Addr)) (fp : List Addr), JI (X.blk s H scope (compEnvC scope cl2 C X.env) fp) cl W0 tg1 iter1 s1)
    (hg1 : ∀ (s : Shared) (H : Hp) (C : Addr) (cl : List (Str × Addr)) (fp : List Addr), PG (X.blk s H scope (compEnvC scope cl C X.env) fp) tg1 g1) (hg1t : TgOk X.K false g1 t1) (hg1w : TgW g1 vs1)
    (ht1 : ∀ (s : Shared) (H : Hp) (C : Addr) (cl2 : List (Str × Addr)) (fp : List Addr), PTs (X.blk s H scope (compEnvC scope cl2 C X.env) fp) ifs1 (tIB X.K cl W0 c1))
    (he : ∀ (s : Shared) (H : Hp) (C : Addr) (cl2 : List (Str × Addr)) (fp : List Addr), JE (X.blk s H scope (compEnvC scope cl2 C X.env) fp) cl W0 elt f) (hs : ∀ x, foldedSetIterable iter X.env x = pure x := by intro _; rfl) (hs1 : ∀ env x, foldedSetIterable iter1 env x = pure x := by intro _ _; rfl) :
    JS X cl W io (.Assign [.Name y py] (.ListComp elt [⟨tg, iter, ifs, 0⟩, ⟨tg1, iter1, ifs1, 0⟩] scope pos) spos) (sAsg (mLc2 (own.map (·.2)) vs1 s t c s1 t1 c1 f) (tgV i)) := fun tk =>
  (ps_setLc2 hc hN hy hyl hsw (hi tk) ok hv hg ht (fun s H C cl2 fp => hi1 s H C cl2 fp takes0) hg1 ht1 (fun s H C cl2 fp => he s H C cl2 fp takes0) hs hs1).yimp fun D σ H q => asg_go (g := gName i) (tg_name hio) q |> fun z => mLc2_ok hgt hgw hg1t hg1w hv z
end
end Y
namespace Y
open PySem L2
def flS : Option Vl → Bool
  | some xm => zfl xm
  | none => true
/-- all slots but the i-th are flat, the i-th a cold list of flat things -/
def okE : Nat → Ev → Bool
  | _, [] => false
  | 0, o :: r => (match o with
    | some (.l ys, .c) => flatL ys
    | _ => false) && r.all flS
  | i + 1, o :: r => flS o && okE i r
def ownE : Nat → Ev → Ev
  | _, [] => []
  | 0, o :: r => (match o with
    | some (.l ys, .c) => some (.l ys, .t)
    | _ => o) :: r
  | i + 1, o :: r => o :: ownE i r
section
variable {X : Cx} {cl : Str → Addr} {W : WX} {K : PySem.W.Frag} {σ : L2.St} {H : Hp}
/-- flat data stay cold, whatever may change -/
theorem Rp.flatM {M M' : Addr → Prop} {m : Md} {v : V} {x : Dt} {F : List Addr} (h : Rp K M H m v x F) (z : Y.zfl (x, m) = true) : Rp K M' H m v x F := by
  cases m with
  | c =>
    have hh := h.1.ho (by simpa [Y.zfl] using z)
    exact ⟨hh.cold (fun b hb => nomatch hb), h.2⟩
  | t =>
    obtain ⟨a, vs, xs, rfl, rfl, rfl, e, c⟩ := h
    have hh := c.ho (by simpa [Y.zfl] using z)
    exact ⟨a, vs, xs, rfl, rfl, rfl, e, hh.cold (fun b hb => nomatch hb)⟩
  | a => exact h
end
end Y
namespace Y
open PySem L2 PyProof.Rows
theorem rngD_at {lo : Int} {n i : Nat} {x : Dt} (h : (rngD lo n)[i]? = some x) : x = .i (lo + i) ∧ i < n := by
  simp only [rngD, List.getElem?_map, Option.map_eq_some_iff] at h
  obtain ⟨j, hj, rfl⟩ := h
  obtain ⟨h1, h2⟩ := List.getElem?_eq_some_iff.mp hj
  simp at h1 h2
  subst h2
  exact ⟨rfl, h1⟩
theorem rngD_len {lo : Int} {n : Nat} : (rngD lo n).length = n := by simp [rngD]
/-- data that can be told equal -/
def pl : Nat → Dt → Bool
  | 0, _ => false
  | d + 1, .t xs => decide (xs.length ≤ LIM) && xs.all (pl d)
  | d + 1, .l xs => decide (xs.length ≤ LIM) && xs.all (pl d)
  | _ + 1, .n => true
  | _ + 1, .b _ => true
  | _ + 1, .i _ => true
  | _ + 1, .s z => PyData.strOk z
  | _ + 1, _ => false
theorem flat_i (ns : List Int) : flatL (ns.map .i) = true := by
  induction ns with
  | nil => rfl
  | cons n ns ih => simp [flatL, Dt.flat, ih]
theorem shp_i (a : Int) : shp (.i a) = true := by simp [shp, toP, SeqAt.shaped, PyData.canLay0, PyData.depth]
theorem shp_b (a : Bool) : shp (.b a) = true := by simp [shp, toP, SeqAt.shaped, PyData.canLay0, PyData.depth]
theorem beq_dec {α : Type} [BEq α] [LawfulBEq α] [DecidableEq α] (a b : α) : (a == b) = decide (a = b) := by by_cases h : a = b <;> simp [h]
theorem eqD_i (a b : Int) : eqD (.i a) (.i b) = decide (a = b) := by simp only [eqD, toP, PyData.eqv, beq_dec]
theorem eqD_b (a b : Bool) : eqD (.b a) (.b b) = decide (a = b) := by cases a <;> cases b <;> rfl
theorem fEq_i (a b : Int) : fEq [.i a, .i b] = some (.b (decide (a = b)), .c) := by simp [fEq, shp_i, eqD_i]
theorem fEq_b (a b : Bool) : fEq [.b a, .b b] = some (.b (decide (a = b)), .c) := by simp [fEq, shp_b, eqD_b]
theorem fNe_i (a b : Int) : fNe [.i a, .i b] = some (.b (!decide (a = b)), .c) := by simp [fNe, shp_i, eqD_i]
theorem fNe_b (a b : Bool) : fNe [.b a, .b b] = some (.b (!decide (a = b)), .c) := by simp [fNe, shp_b, eqD_b]
theorem cMul_l {a b : Int} (h1 : -(2 ^ 64) < a) (h2 : a < 2 ^ 64) : cMul a b = true := by simp [cMul]; left; omega
theorem cMul_r {a b : Int} (h1 : -(2 ^ 64) < b) (h2 : b < 2 ^ 64) : cMul a b = true := by simp [cMul]; right; omega
theorem fIx_l (xs : List Dt) (n : Int) : fIx [.l xs, .i n] = (atI xs n).map (·, .c) := rfl
theorem fIx_t (xs : List Dt) (n : Int) : fIx [.t xs, .i n] = (atI xs n).map (·, .c) := rfl
theorem fIx_z (xs : List Dt) (n : Int) : fIx [.z xs, .i n] = (atI xs n).map (·, .c) := rfl
theorem ixN_nat {n k : Nat} (h : k < n) : ixN n (k : Int) = some k := by
  unfold ixN
  rw [if_pos (by omega)]
  simp
  omega
theorem atI_nat {α : Type} (xs : List α) (k : Nat) : atI xs (k : Int) = xs[k]? := by
  unfold atI
  by_cases h : k < xs.length
  · rw [ixN_nat h]; rfl
  · rw [List.getElem?_eq_none (by omega)]
    unfold ixN
    rw [if_pos (by omega)]
    simp [h]
end Y
namespace Y
open PySem L2 PyProof.Rows
section
variable {X : Cx} {K : PySem.W.Frag} {cl : Str → Addr} {W : WX} {σ : L2.St} {H : Hp}
/-- a method's call on a list: the list is one -/
def isLd : Dt → Bool
  | .l _ => true
  | _ => false
def mMt (p : List Dt → Option Vl) (A : Am) (as : List Am) : Ev → Ou Vl := fun r => match evA [A] r with
  | .ok ys r1 => match look r1 ys with
    | some [x] => if isLd x then mP p (A :: as) r else .no
    | _ => .no
  | .ex c fs r1 => .ex c fs r1
  | .no => .no
end
end Y
namespace Y
open PySem L2 PyProof.Rows
section
variable {X : Cx} {K : PySem.W.Frag} {cl : Str → Addr} {W : WX} {σ : L2.St} {M : Addr → Prop} {H : Hp} {C : Addr} {c f : Str}
theorem CoL.lookup : ∀ {fvs : List (Str × V)} {fs : List Dt} {x : Dt}, CoL K M H (fvs.map (·.2)) fs → ((fvs.map (·.1)).zip fs).lookup f = some x → ∃ v, fvs.lookup f = some v ∧ Co K M H v x
  | [], _, _, _, h => by simp at h
  | (g, v) :: fvs, [], _, q, _ => by cases q
  | (g, v) :: fvs, y :: fs, x, q, h => by
    cases q with
    | cons q1 q2 =>
      simp only [List.map_cons, List.zip_cons_cons, List.lookup_cons] at h ⊢
      cases e : f == g with
      | true =>
        rw [e] at h
        cases h
        exact ⟨v, rfl, q1⟩
      | false =>
        rw [e] at h
        exact CoL.lookup q2 h
def isO (c m : Str) : Dt → Bool
  | .o c' ns _ => decide (c' = c) && !ns.contains m
  | _ => false
def mMe (c m : Str) (fn : Fn) (A : Am) (as : List Am) : Ev → Ou Vl := fun r => match evA [A] r with
  | .ok ys r1 => match look r1 ys with
    | some [x] => if isO c m x then mC fn (A :: as) r else .no
    | _ => .no
  | .ex c fs r1 => .ex c fs r1
  | .no => .no
end
end Y
namespace Y
open PySem L2 PyProof.Rows
def rem (H : Hp) (p : Addr) : Hp := fun b => if b = p then none else H b
theorem rem_ne {H : Hp} {p b : Addr} (h : b ≠ p) : rem H p b = H b := if_neg h
theorem rem_at {H : Hp} {p : Addr} : rem H p p = none := if_pos rfl
theorem rem_some {H : Hp} {p b : Addr} {o : HO} (h : rem H p b = some o) : b ≠ p ∧ H b = some o := by
  by_cases e : b = p
  · rw [e, rem_at] at h; cases h
  · rw [rem_ne e] at h; exact ⟨e, h⟩
theorem rem_none {H : Hp} {p b : Addr} (h : H b = none) : rem H p b = none := by
  by_cases e : b = p
  · rw [e, rem_at]
  · rw [rem_ne e, h]
def nobE : Ev → Bool
  | [] => true
  | none :: r => nobE r
  | some (x, _) :: r => nob x && nobE r
theorem nobE_at : ∀ {r : Ev} {i : Nat} {x : Dt} {m : Md}, nobE r = true → r[i]? = some (some (x, m)) → nob x = true
  | [], _, _, _, _, h => by simp at h
  | none :: r, 0, _, _, _, h => by simp at h
  | some (y, n) :: r, 0, x, m, hb, h => by
    simp only [List.getElem?_cons_zero, Option.some.injEq, Prod.mk.injEq] at h
    obtain ⟨rfl, rfl⟩ := h
    simp only [nobE, Bool.and_eq_true] at hb
    exact hb.1
  | none :: r, i + 1, x, m, hb, h => nobE_at (r := r) (i := i) hb (by simpa using h)
  | some (y, n) :: r, i + 1, x, m, hb, h => by
    simp only [nobE, Bool.and_eq_true] at hb
    exact nobE_at (r := r) (i := i) hb.2 (by simpa using h)
section
variable {K : PySem.W.Frag} {M M' : Addr → Prop} {H H' H0 : Hp} {p C dx : Addr} {fvs : List (Str × V)} {G G' : Nat → List Addr} {F : List Addr} {r r' : Ev} {σ : L2.St}
theorem rd_rem (hp : H p = some (.ins C dx fvs)) {a : Addr} {u : HO} (h : Rd H a u) (hu : ∀ z, u ≠ .ins C dx z) : Rd (rem H p) a u := by
  rcases h with h | ⟨o, h⟩
  · exact .inl (by rw [rem_ne (ne_of h hp (hu _))]; exact h)
  · exact .inr ⟨o, by rw [rem_ne (ne_of h hp fun z => by cases z)]; exact h⟩
mutual
theorem Co.rem (hp : H p = some (.ins C dx fvs)) : ∀ {v : V} {x : Dt}, Co K M H v x → nob x = true → Co K M (rem H p) v x
  | _, _, .n, _ => .n
  | _, _, .b x, _ => .b x
  | _, _, .i x, _ => .i x
  | _, _, .s x, _ => .s x
  | _, _, .t h q, b => .t (h.imp (fun z => rd_rem hp z fun _ e => by cases e) id) (CoL.rem hp q b)
  | _, _, .l h hn q, b => .l (by rw [rem_ne (ne_of h hp fun e => by cases e)]; exact h) hn (CoL.rem hp q b)
  | _, _, .z h q, b => .z (h.imp (fun ⟨o, z⟩ => ⟨o, by rw [rem_ne (ne_of z hp fun e => by cases e)]; exact z⟩) id) (CoL.rem hp q b)
  | _, _, .m _ _ _, b => nomatch b
  | _, _, .o _ _ _ _, b => nomatch b
  | _, _, .x0 _ _, b => nomatch b
  | _, _, .f _, b => nomatch b
  | _, _, .k _ _ _ _ _ _, b => nomatch b
  | _, _, .x1 _ _ _ _, b => nomatch b
theorem CoL.rem (hp : H p = some (.ins C dx fvs)) : ∀ {vs : List V} {xs : List Dt}, CoL K M H vs xs → nobL xs = true → CoL K M (rem H p) vs xs
  | _, _, .nil, _ => .nil
  | _, _, .cons h q, b => .cons (Co.rem hp h (by simp only [nobL, Bool.and_eq_true] at b; exact b.1)) (CoL.rem hp q (by simp only [nobL, Bool.and_eq_true] at b; exact b.2))
end
mutual
theorem Ho.nobs : ∀ {v : V} {x : Dt} {F : List Addr}, Ho K H v x F → nob x = true → ∀ b ∈ F, ∃ xs, H b = some (.lst xs)
  | _, _, _, .n, _, _, h => nomatch h
  | _, _, _, .b x, _, _, h => nomatch h
  | _, _, _, .i x, _, _, h => nomatch h
  | _, _, _, .s x, _, _, h => nomatch h
  | _, _, _, .t h q, n, b, hb => HoL.nobs q n b hb
  | _, _, _, .z h q, n, b, hb => HoL.nobs q n b hb
  | _, _, _, .l h q, n, b, hb => by
    rcases List.mem_cons.mp hb with e | hb
    · rw [e]; exact ⟨_, h⟩
    · exact HoL.nobs q n b hb
  | _, _, _, .m _ _, n, _, _ => nomatch n
  | _, _, _, .o _ _ _, n, _, _ => nomatch n
  | _, _, _, .k _ _ _ _ _, n, _, _ => nomatch n
theorem HoL.nobs : ∀ {vs : List V} {xs : List Dt} {F : List Addr}, HoL K H vs xs F → nobL xs = true → ∀ b ∈ F, ∃ xs, H b = some (.lst xs)
  | _, _, _, .nil, _, _, h => nomatch h
  | _, _, _, .cons h q, n, b, hb => by
    simp only [nobL, Bool.and_eq_true] at n
    rcases List.mem_append.mp hb with hb | hb
    · exact Ho.nobs h n.1 b hb
    · exact HoL.nobs q n.2 b hb
end
theorem Rp.rem (hp : H p = some (.ins C dx fvs)) {m : Md} {v : V} {x : Dt} (h : Rp K M H m v x F) (b : nob x = true) : Rp K M (rem H p) m v x F := by
  cases m with
  | c => exact ⟨h.1.rem hp b, h.2⟩
  | t =>
    obtain ⟨a, vs, xs, h1, h2, h3, h4, h5⟩ := h
    subst h2
    exact ⟨a, vs, xs, h1, rfl, h3, by rw [rem_ne (ne_of h4 hp fun e => by cases e)]; exact h4, h5.rem hp b⟩
  | a =>
    refine Ho.stay (fun a xs q => rd_rem hp q fun _ e => by cases e) (fun a o u q => by rw [rem_ne (ne_of q hp fun e => by cases e)]; exact q) h fun a ha => ?_
    obtain ⟨xs, q⟩ := Ho.nobs h b a ha
    exact rem_ne (ne_of q hp fun e => by cases e)
theorem ER.rem (hp : H p = some (.ins C dx fvs)) (hm : ¬ M p) {y : Dt} (e : ER K (some (y, .c) :: r) σ G M H) (b : nobE r = true) : ER K (none :: r) σ G M (rem H p) := by
  refine ⟨by simpa using e.len, fun i x m h => ?_, fun i h => ?_, e.nd, e.dj, e.sub, fun a ha => ?_, e.tab.cold fun b o h n => by rw [rem_ne (ne_of h hp fun z => n (by rw [z]; trivial))]; exact h⟩
  · cases i with
    | zero => simp at h
    | succ i =>
      have h2 : r[i]? = some (some (x, m)) := by simpa using h
      obtain ⟨v, h3, h4⟩ := e.at_ (i + 1) x m (by simpa using h2)
      exact ⟨v, h3, h4.rem hp (nobE_at b h2)⟩
  · cases i with
    | zero =>
      obtain ⟨v, _, h4⟩ := e.at_ 0 y .c (by simp)
      exact h4.2
    | succ i => exact e.emp (i + 1) fun x m q => h x m (by simpa using q)
  · obtain ⟨xs, q, ho⟩ := e.hot a ha
    exact ⟨xs, by rw [rem_ne fun z => hm (by rw [← z]; exact ha)]; exact q, ho⟩
theorem Evo.rem (a : Evo H M G H' M' G' F) : Evo (rem H p) M G (rem H' p) M' G' F := by
  refine ⟨fun b o q k {nt} => ?_, fun b q => ?_, fun b q => (a.grow b q).imp id rem_none, a.keep, fun i b q => (a.env i b q).imp id rem_none, fun b q => (a.res b q).imp id rem_none⟩
  · obtain ⟨h1, h2⟩ := rem_some q
    rw [rem_ne h1]
    exact a.pres b o h2 k
  · by_cases e : b = p
    · rw [e, rem_at]
    · rw [rem_ne e] at q ⊢
      exact a.dom b q
/-- the object alone, nobody else knows it -/
structure NS (K : PySem.W.Frag) (C p : Addr) (H0 : Hp) (M0 : Addr → Prop) (G0 : Nat → List Addr) (r : Ev) (ns : List Str) (fs : List Dt) (σ : L2.St) (H : Hp) (M : Addr → Prop) (G : Nat → List Addr) : Prop where
  ob : ∃ dx fvs, H p = some (.ins C dx fvs) ∧ fvs.map (·.1) = ns ∧ CoL K M (Y.rem H p) (fvs.map (·.2)) fs
  er : ER K (none :: r) σ G M (Y.rem H p)
  ev : Evo (Y.rem H0 p) M0 G0 (Y.rem H p) M G []
  s0 : σ[0]? = some (some (.ref p))
  ht : Hotty M0 (Y.rem H0 p)
theorem NS.nm {M0 : Addr → Prop} {G0 : Nat → List Addr} {ns : List Str} {fs : List Dt} (S : NS K C p H0 M0 G0 r ns fs σ H M G) : ¬ M p := fun z => by
  obtain ⟨o, q, _⟩ := S.er.hot p z
  rw [rem_at] at q
  cases q
end
inductive IR where
  | fld (f : Str) (g : Ev → Ou Vl)
  | st (s : Ev → So)
def iRun (c : Str) : List IR → Ev → List Str → List Dt → Option (List Str × List Dt)
  | [], _, ns, fs => some (ns, fs)
  | .fld f g :: w, r, ns, fs => match g (some (.o c ns fs, .c) :: r) with
    | .ok (x, _) (some (_, .c) :: r2) => if (nob x && nobE r2 && !ns.contains f && decide (ns.length < 900)) = true then iRun c w r2 (ns ++ [f]) (fs ++ [x]) else none
    | _ => none
  | .st s :: w, r, ns, fs => match s (some (.o c ns fs, .c) :: r) with
    | .nx (some (_, .c) :: r2) => if nobE r2 = true then iRun c w r2 ns fs else none
    | _ => none
def fnMk (c : Str) (pad : Nat) (w : List IR) : Fn := fun xs => match iRun c w (xs.map some ++ List.replicate pad none) [] [] with
  | some (ns, fs) => .rt (.o c ns fs, .c) (.n, .c)
  | none => .no
end Y
namespace Y
open PySem L2 PyProof.Rows
section
variable {X : Cx} {K : PySem.W.Frag} {cl : Str → Addr} {W : WX}
def fDivmod : List Dt → Option Vl
  | [.i a, .i b] => if (decide (0 < b) && decide (b < 1073741824)) = true then some (.t [.i (a / b), .i (a % b)], .c) else none
  | _ => none
def fLrg : List Dt → Option Vl
  | [.i i, .i j, .i c] => if c = -1 ∧ -(2 ^ 60) ≤ i ∧ i ≤ 2 ^ 60 ∧ -(2 ^ 60) ≤ j ∧ j ≤ 2 ^ 60 ∧ i - j ≤ LIM then some (.l (rngC i (-1) (i - j).toNat), .t) else none
  | _ => none
end
end Y
namespace Y
open PySem L2 PyProof.Rows
def forH (t : Vl → Ev → Option Ev) (body : Ev → So) : List Vl → Ev → So
  | [], r => .nx r
  | x :: xs, r => match t x r with
    | none => .no
    | some r1 => match body r1 with
      | .nx r2 => forH t body xs r2
      | .ct r2 => forH t body xs r2
      | .bk r2 => .nx r2
      | .rt x r2 => .rt x r2
      | .ex c fs r2 => .ex c fs r2
      | .no => .no
def sForH (fs : List (Ev → Ou Vl)) (t : Vl → Ev → Option Ev) (body : Ev → So) : Ev → So := fun r => match evH fs r with
  | .ok xs r1 => if xs.length ≤ LIM then forH t body xs r1 else .no
  | .ex c fs r1 => .ex c fs r1
  | .no => .no
section
variable {K : PySem.W.Frag} {cl : Str → Addr} {W : WX} {io : Bool} {M M' M0 : Addr → Prop} {H H' H0 : Hp} {G G' G0 : Nat → List Addr} {r r' : Ev} {σ σ' σ0 : L2.St} {D : Ends}
theorem Rp.stay {m : Md} {v : V} {x : Dt} {F : List Addr} (h : Rp K M H m v x F) (f : Fm M H M' H') (st : ∀ b ∈ F, H' b = H b) (hF : ∀ b ∈ F, M b) : Rp K M' H' m v x F := by
  cases m with
  | c => exact ⟨h.1.fm f, h.2⟩
  | t =>
    obtain ⟨a, vs, xs, h1, h2, h3, h4, h5⟩ := h
    exact ⟨a, vs, xs, h1, h2, h3, by rw [st a (by rw [h3]; simp), h4], h5.fm f⟩
  | a =>
    refine Ho.stay (fun b xs q => ?_) (fun b o u q => ?_) h st
    · exact f.rd q (f.hot.nrd q)
    · exact f.keep b _ q (f.hot.nfz q)
theorem HL.stay : ∀ {vs : List V} {xs : List Vl} {F : List Addr}, HL K M H vs xs F → Fm M H M' H' → (∀ b ∈ F, H' b = H b) → (∀ b ∈ F, M b) → HL K M' H' vs xs F
  | _, _, _, .nil, _, _, _ => .nil
  | _, _, _, .cons rp q, f, st, hF => .cons (rp.stay f (fun b hb => st b (List.mem_append_left _ hb)) fun b hb => hF b (List.mem_append_left _ hb)) (q.stay f (fun b hb => st b (List.mem_append_right _ hb)) fun b hb => hF b (List.mem_append_right _ hb))
theorem HL.lists : ∀ {vs : List V} {xs : List Vl} {F : List Addr}, HL K M H vs xs F → ∀ b ∈ F, ∃ o, H b = some o ∧ hotO o
  | _, _, _, .nil, _, z => nomatch z
  | _, _, _, .cons rp q, b, hb => (List.mem_append.mp hb).elim (rp.lists b) (q.lists b)
/-- what is held, beside an environment -/
structure Hd (K : PySem.W.Frag) (M : Addr → Prop) (H : Hp) (G : Nat → List Addr) (vs : List V) (xs : List Vl) (F : List Addr) : Prop where
  hl : HL K M H vs xs F
  nd : F.Nodup
  hot : ∀ b ∈ F, M b ∧ ∀ i, b ∉ G i
theorem Hd.evo {vs : List V} {xs : List Vl} {F F2 : List Addr} (d : Hd K M H G vs xs F) (e : ER K r σ G M H) (a : Evo H M G H' M' G' F2) : Hd K M' H' G' vs xs F := by
  have st : ∀ b ∈ F, H' b = H b := fun b hb => by
    obtain ⟨zs, q, _⟩ := d.hl.lists b hb
    rw [q]
    exact a.pres b _ q (d.hot b hb).2
  refine ⟨d.hl.stay (e.fm a) st fun b hb => (d.hot b hb).1, d.nd, fun b hb => ⟨a.keep b (d.hot b hb).1 (d.hot b hb).2, fun i hi => ?_⟩⟩
  rcases a.env i b hi with ⟨j, q⟩ | q
  · exact (d.hot b hb).2 j q
  · obtain ⟨zs, z, _⟩ := d.hl.lists b hb
    rw [z] at q
    cases q
end
end Y
namespace Y
open PySem L2 PyProof.Rows
end Y
namespace PySem
namespace YG
open PySem.W PySem.Calls PyProof.Rows PySem.HandSPX
end YG
end PySem
namespace Y
open PySem PySem.Spec PySem.YG PyProof.Rows L2
/-- what the written part says of an own exception class -/
structure XC (K : PySem.W.Frag) (C : Addr) (nw : String) (tl : List Value) : Prop where
  cls : ∃ nm q N bs sn sub ab col dd k0 k1 k2 k3 k5, K.lookup C = some (excClassObj nm q C N bs tl true sn sub ab col dd k0 k1 k2 k3 k5 nw)
  sa : PySem.W.findIn K (.ref C) "__setattr__" = some (some (.builtin "object.__setattr__"))
  exC : PySem.W.subIn K (.ref C) (.type "BaseException") = some true
  tyC : PySem.W.typeIn K (.ref C) = some (.type "type")
  kC : PySem.W.keepIn K (.ref C) = true
theorem XC.data {K : PySem.W.Frag} {C : Addr} {nw : String} {tl : List Value} (T : XC K C nw tl) : ∃ cd, PySem.W.clsIn K C = some cd ∧ cd.mro = .ref C :: tl ∧ cd.hasDict = true := by
  obtain ⟨nm, q, N, bs, sn, sub, ab, col, dd, k0, k1, k2, k3, k5, hC⟩ := T.cls
  exact ⟨{ name := nm, bases := bs, mro := .ref C :: tl, ns := N, qualname := q, hasDict := true, slotNames := sn, subclasses := sub, abstract := ab, collection := col, hasDel := false },
    by unfold PySem.W.clsIn; rw [hC] <;> rfl, rfl, rfl⟩
section
variable {X : Cx} {cl : Str → Addr} {W : WX} {io : Bool}
def sRaise1 (c f : Str) (m : Ev → Ou Vl) : Ev → So := fun r => match m r with
  | .ok (x, _) r' => if x.flat then .ex c [(f, x)] r' else .no
  | .ex c' fs r' => .ex c' fs r'
  | .no => .no
def sRaise0 (c : Str) : Ev → So := fun r => .ex c [] r
end
end Y
open PySem PySem.Spec PySem.Calls PyProof.Rows PySem.W
namespace PySem.YG
end PySem.YG
namespace Y
open PySem PySem.Spec PySem.YG PyProof.Rows L2
section
variable {K : PySem.W.Frag} {M M' : Addr → Prop} {H H' : Hp} {G G' : Nat → List Addr} {r r' : Ev} {σ : L2.St}
/-- a slot of which nothing is known is given any value -/
theorem ER.any {i : Nat} {v : Option V} (e : ER K r σ G M H) (h : ∀ x m, r[i]? ≠ some (some (x, m))) : ER K r (σ.set i v) G M H := by
  refine ⟨by simp [e.len], fun k x m hk => ?_, e.emp, e.nd, e.dj, e.sub, e.hot, e.tab⟩
  have ne : k ≠ i := fun z => h x m (z ▸ hk)
  obtain ⟨w, h1, h2⟩ := e.at_ k x m hk
  exact ⟨w, by rw [List.getElem?_set_ne (Ne.symm ne)]; exact h1, h2⟩
/-- a new thing that is no list -/
theorem ER.new {a : Addr} {o : HO} (e : ER K r σ G M H) (ha : H a = none) : ER K r σ G M (upd H a o) ∧ Evo H M G (upd H a o) M G [] :=
  ⟨e.evoF (fun b u hb _ => by rw [upd_ne (ne_of_none hb ha)]; exact hb) (fun b z => .inl z) (fun i b hb => e.sub i b hb) fun b z => by
      obtain ⟨xs, q, ho⟩ := e.hot b z
      exact ⟨xs, by rw [upd_ne (ne_of_none q ha)]; exact q, ho⟩,
    ⟨fun b u hb _ => by rw [upd_ne (ne_of_none hb ha)]; exact hb, fun b hb => by
      by_cases h1 : b = a
      · rw [h1, upd_same] at hb; cases hb
      · rwa [upd_ne h1] at hb, fun b z => .inl z, fun b z _ => z, fun i b hb => .inl ⟨i, hb⟩, fun _ z => nomatch z⟩⟩
end
end Y
namespace Y
open PySem PySem.Spec PySem.YG PyProof.Rows L2
/-- what an own exception class must say -/
structure XI (K : PySem.W.Frag) (C : Addr) : Prop where
  ga : PySem.W.findIn K (.ref C) "__getattribute__" = some (some (.builtin "BaseException.__getattribute__"))
  gg : PySem.W.findIn K (.ref C) "__getattr__" = some none
  sb : PySem.W.subIn K (.ref C) (.type "BaseException") = some true
  hd : PySem.W.hasDictIn K C = true
  ha : PySem.W.findIn K (.ref C) "__class__" = some (some (.builtin "object.__class__"))
  hn : PySem.W.specialIn K (.builtin "object.__class__") "__get__" = some (some (.builtin "getset_descriptor.__get__"))
  ht : PySem.W.takesIn K (.builtin "object.__class__") = some true
  hm : PySem.W.mroIn K C (.type "object") = some true
theorem XI.cls {K : PySem.W.Frag} {C : Addr} (T : XI K C) : (PySem.W.clsIn K C).isSome = true := by
  obtain ⟨cd, hc, _⟩ := PySem.W.any_some T.hd
  rw [hc]; rfl
/-- where an exception stands, and its dict -/
def XAt (H : Hp) (a C : Addr) : Prop := ∃ d, H a = some (exk a C d) ∧ (d = none ∨ ∃ dx fs, d = some dx ∧ H dx = some (.xd fs))
/-- which classes of exceptions are of these -/
def fIsc (tb : List (Str × Bool)) : List Dt → Option Vl
  | [.n] => some (.b false, .c)
  | [.x c _ _] => (tb.lookup c).map fun b => (.b b, .c)
  | _ => none
section
variable {K : PySem.W.Frag} {cl : Str → Addr} {us : List Value} {cs : List V} {tb : List (Str × Bool)}
theorem XAt.new {H : Hp} {a C p : Addr} {o : HO} (h : XAt H a C) (hp : H p = none) : XAt (upd H p o) a C := by
  obtain ⟨d, h1, h2⟩ := h
  refine ⟨d, by rw [upd_ne (ne_of_none h1 hp)]; exact h1, h2.imp id fun ⟨dx, fs, e, h3⟩ => ⟨dx, fs, e, ?_⟩⟩
  rw [upd_ne (ne_of_none h3 hp)]; exact h3
end
/-- names of classes, as values -/
inductive ClE (X : Cx) : Expr → V → Value → Prop
  | own {x : Str} {C : Addr} {p : Pos} : Gl X x → X.mg x = some (.ref C) → (x == ("__debug__" : Str)) = false → ClE X (.Name x p) (.ref C) (.ref C)
  | bt {x : Str} {n : String} {p : Pos} : Gl X x → X.mg x = none → bootBuiltins x = some (.type n) → x ≠ "__name__" → (x == ("__debug__" : Str)) = false → ClE X (.Name x p) (.ty n) (.type n)
inductive ClEs (X : Cx) : List Expr → List V → List Value → Prop
  | nil : ClEs X [] [] []
  | cons {e : Expr} {v : V} {u : Value} {es : List Expr} {vs : List V} {us : List Value} : ClE X e v u → starEach (e :: es) X.env = (false, eval e X.env) :: starEach es X.env → ClEs X es vs us → ClEs X (e :: es) (v :: vs) (u :: us)
def tCs : List V → TA
  | [] => tNil
  | v :: vs => tCons (tC v) (tCs vs)
section
variable {X : Cx} {cl : Str → Addr} {W : WX} {e t : Expr} {A : Am} {tb : List (Str × Bool)}
theorem ClE.pe {v : V} {u : Value} (h : ClE X e v u) : PE X e (tC v) ∧ ClsV v u := by
  cases h with
  | own a b c => exact ⟨pe_glob a b (show RelV (.ref _) (.ref _) from rfl) c, .own _⟩
  | bt a b c d f => exact ⟨pe_bltn a b c (show RelV (.ty _) (.type _) from rfl) d f, .ty _⟩
theorem ClEs.pa {es : List Expr} {vs : List V} {us : List Value} (h : ClEs X es vs us) : PA X es (tCs vs) ∧ Paired ClsV vs us := by
  induction h with
  | nil => exact ⟨pa_nil, .nil⟩
  | cons a b c ih => exact ⟨pa_cons a.pe.1 ih.1 b, .cons a.pe.2 ih.2⟩
end
/-- where a class stands, by its name -/
def clK (K : PySem.W.Frag) (c : Str) : Addr := match PySem.W.nsIn K mainGlobals c with
  | some (some (.ref C)) => C
  | _ => 0
end Y
namespace Y
open PySem L2 PyProof.Rows
section
variable {X : Cx} {K : PySem.W.Frag} {cl : Str → Addr} {W : WX}
def fLr1 : List Dt → Option Vl
  | [.i n] => if -(2 ^ 60) ≤ n ∧ n ≤ LIM then some (.l (rngD 0 n.toNat), .t) else none
  | _ => none
def fLr2 : List Dt → Option Vl
  | [.i a, .i b] => if -(2 ^ 60) ≤ a ∧ a ≤ 2 ^ 60 ∧ -(2 ^ 60) ≤ b ∧ b ≤ 2 ^ 60 ∧ b - a ≤ LIM then some (.l (rngD a (b - a).toNat), .t) else none
  | _ => none
end
def tru : Dt → Option Bool
  | .n => some false
  | .b k => some k
  | .i z => some (z != 0)
  | .t xs => some (!xs.isEmpty)
  | .l xs => some (!xs.isEmpty)
  | _ => none
section
variable {X : Cx} {cl : Str → Addr} {W : WX} {K : PySem.W.Frag} {M : Addr → Prop} {H : Hp}
theorem CoL.emp {vs : List V} {xs : List Dt} (h : CoL K M H vs xs) : (!xs.isEmpty) = !vs.isEmpty := by
  cases h <;> rfl
def mOrT (f g : Ev → Ou Vl) : Ev → Ou Vl := fun r => match f r with
  | .ok (x, _) r' => match tru x with
    | some true => .ok (x, .c) r'
    | some false => g r'
    | none => .no
  | .ex c fs r' => .ex c fs r'
  | .no => .no
end
end Y
namespace Y
open PySem L2 PyProof.Rows
end Y
namespace Y
open PySem L2 PyProof.Rows
end Y
namespace Y
open PySem L2 PyProof.Rows
section
variable {X : Cx} {K : PySem.W.Frag} {cl : Str → Addr} {W : WX}
/-- H and the new pairs, one behind another -/
inductive ZUp (H0 : Hp) : List (V × V) → Hp → List V → Prop
  | nil : ZUp H0 [] H0 []
  | snoc {ps : List (V × V)} {H : Hp} {vs : List V} {T : Addr} {x y : V} : ZUp H0 ps H vs → H T = none → ZUp H0 (ps ++ [(x, y)]) (upd H T (.tup [x, y])) (vs ++ [.ref T])
theorem ZUp.len {H0 H : Hp} {ps : List (V × V)} {vs : List V} (h : ZUp H0 ps H vs) : vs.length = ps.length := by
  induction h with
  | nil => rfl
  | snoc _ _ ih => simp [ih]
theorem ZUp.sub {H0 H : Hp} {ps : List (V × V)} {vs : List V} (h : ZUp H0 ps H vs) : ∀ b o, H0 b = some o → H b = some o := by
  induction h with
  | nil => exact fun _ _ e => e
  | snoc _ hn ih => exact fun b o e => by rw [upd_ne fun z => by have := ih b o e; rw [z, hn] at this; cases this]; exact ih b o e
/-- where the walk over both stands -/
def ZSt (h : Heap) (z TI TO i1 i2 l1 l2 S : Addr) (i : Nat) : Prop := IsPair h TI (.ref i1) (.ref i2) ∧ h.IsListIter i1 l1 i ∧ h.IsListIter i2 l2 i ∧
  ((IsZip h z TI TO .none ∧ ∃ a b, IsPair h TO a b) ∨ ∃ T f oT, IsZipHeld h z TI TO T f ∧ h.get? T = some oT ∧ T ≠ z ∧ T ≠ i1 ∧ T ≠ i2 ∧ T ≠ S)
theorem ZSt.keep {h h' : Heap} {z TI TO i1 i2 l1 l2 S : Addr} {i : Nat} (st : ZSt h z TI TO i1 i2 l1 l2 S i) (k : ∀ b o, b ≠ S → h.get? b = some o → h'.get? b = some o) (d1 : S ≠ z) (d2 : S ≠ TI) (d3 : S ≠ TO) (d4 : S ≠ i1) (d5 : S ≠ i2) : ZSt h' z TI TO i1 i2 l1 l2 S i := by
  obtain ⟨hTI, h1, h2, hz⟩ := st
  refine ⟨k _ _ (Ne.symm d2) hTI, h1.at fun o e => k _ o (Ne.symm d4) e, h2.at fun o e => k _ o (Ne.symm d5) e, ?_⟩
  rcases hz with ⟨hz, a, b, hTO⟩ | ⟨T, f, oT, hz, hT, r1, r2, r3, r4⟩
  · exact .inl ⟨k _ _ (Ne.symm d1) hz, a, b, k _ _ (Ne.symm d3) hTO⟩
  · exact .inr ⟨T, f, oT, k _ _ (Ne.symm d1) hz, k _ _ r4 hT, r1, r2, r3, r4⟩
/-- .. on data -/
def fLz : List Dt → Option Vl
  | [.l xs, .l ys] => if (zipD xs ys).length ≤ LIM then some (.l (zipD xs ys), .t) else none
  | _ => none
/-- the new pairs stand -/
def AtP (H : Hp) : List (V × V) → List V → Prop
  | [], [] => True
  | p :: ps, w :: ws => (∃ T, w = .ref T ∧ H T = some (.tup [p.1, p.2])) ∧ AtP H ps ws
  | _, _ => False
theorem AtP.mono {H H' : Hp} (k : ∀ b o, H b = some o → H' b = some o) : ∀ {ps : List (V × V)} {ws : List V}, AtP H ps ws → AtP H' ps ws
  | [], [], _ => trivial
  | _ :: _, _ :: _, ⟨⟨T, e, h⟩, r⟩ => ⟨⟨T, e, k _ _ h⟩, AtP.mono k r⟩
  | [], _ :: _, h => h.elim
  | _ :: _, [], h => h.elim
theorem AtP.snoc {H : Hp} {p : V × V} {w : V} (hw : ∃ T, w = .ref T ∧ H T = some (.tup [p.1, p.2])) : ∀ {ps : List (V × V)} {ws : List V}, AtP H ps ws → AtP H (ps ++ [p]) (ws ++ [w])
  | [], [], _ => ⟨hw, trivial⟩
  | _ :: _, _ :: _, ⟨h, r⟩ => ⟨h, AtP.snoc hw r⟩
  | [], _ :: _, h => h.elim
  | _ :: _, [], h => h.elim
theorem ZUp.at {H0 H : Hp} {ps : List (V × V)} {vs : List V} (h : ZUp H0 ps H vs) : AtP H ps vs := by
  induction h with
  | nil => exact trivial
  | @snoc ps H vs T x y _ hn ih => exact AtP.snoc (p := (x, y)) ⟨T, rfl, upd_same⟩ (ih.mono (same_new hn))
end
section
variable {X : Cx} {K : PySem.W.Frag} {cl : Str → Addr} {W : WX} {r : Ev} {G : Nat → List Addr} {M : Addr → Prop} {H H' : Hp} {σ : L2.St}
def mSlZ (A : Am) (lo hi : Option (Ev → Ou Vl)) : Ev → Ou Vl := fun r => match evA [A] r with
  | .ok ys r1 => match evP lo r1 with
    | .ok l r2 => match evP hi r2 with
      | .ok u r3 => match look r3 ys with
        | some [x] => match fSl l u x with
          | some (y, m) => .ok (y, m) (if zfl (y, m) then r3 else frz ys r3)
          | none => .no
        | _ => .no
      | .ex c fs r3 => .ex c fs r3
      | .no => .no
    | .ex c fs r2 => .ex c fs r2
    | .no => .no
  | .ex c fs r1 => .ex c fs r1
  | .no => .no
end
end Y
namespace Y
open PySem L2 PyProof.Rows
/-- put into a rising list, once -/
def insU (x : Int) : List Int → List Int
  | [] => [x]
  | y :: ys => if x < y then x :: y :: ys else if x = y then y :: ys else y :: insU x ys
/-- the unlike ones, rising -/
def ssrt (ns : List Int) : List Int := ns.foldr insU []
section
variable {X : Cx} {K : PySem.W.Frag}
def fLenSetD : List Dt → Option Vl
  | [.l xs] => match intsL xs with
    | some ns => if ns.length ≤ 4000 then some (.i (ssrt ns).length, .c) else none
    | none => none
  | _ => none
def fSrtSet : List Dt → Option Vl
  | [.t xs] => match intsL xs with
    | some ns => if ns.length < 64 then some (.l ((ssrt ns).map .i), .t) else none
    | none => none
  | _ => none
end
section
variable {X : Cx} {K : PySem.W.Frag} {cl : Str → Addr} {W : WX} {σ : L2.St} {H : Hp}
def mTIf (c f g : Ev → Ou Bool) : Ev → Ou Bool := fun r => match c r with
  | .ok true r' => f r'
  | .ok false r' => g r'
  | .ex c fs r' => .ex c fs r'
  | .no => .no
end
end Y
namespace L2
open PySem PySem.Spec PyProof.Rows
end L2
namespace Y
open PySem L2 PyProof.Rows
section
variable {X : Cx} {cl : Str → Addr} {W : WX} {K : PySem.W.Frag}
def fRevT : List Dt → Option Vl
  | [.t xs] => some (.t xs.reverse, .c)
  | _ => none
end
end Y
namespace PySem
open PySem PySem.Spec PyProof.Rows
end PySem
namespace L2
open PySem PySem.Spec PyProof.Rows
end L2
namespace Y
open PySem L2 PyProof.Rows
section
variable {K : PySem.W.Frag} {cl : Str → Addr} {W : WX} {io : Bool} {M M' M0 : Addr → Prop} {H H' H0 : Hp} {G G' G0 : Nat → List Addr} {r r' : Ev} {σ σ0 : L2.St}
/-- all given up -/
def coldE (r : Ev) : Ev := r.map fun o => o.map fun x => (x.1, .c)
def keyOf : Dt → Option Key
  | .i k => some (.inl k)
  | .s x => some (.inr x)
  | _ => none
theorem rp_flat {m : Md} {v : V} {x : Dt} {F : List Addr} (h : Rp K M H m v x F) (e : x.flat = true) : Ho K H v x [] := by
  cases m with
  | c => exact h.1.ho e
  | t => obtain ⟨_, _, _, _, rfl, _⟩ := h; cases e
  | a =>
    have := Ho.flatE h e
    subst this
    exact h
def putD (kvs : List (Key × Dt)) (k : Key) (v : Dt) : List (Key × Dt) :=
  if (kvs.any fun kv => decide (kv.1 = k)) = true then kvs.map (fun kv => if kv.1 = k then (kv.1, v) else kv) else kvs ++ [(k, v)]
inductive PRk (K : PySem.W.Frag) (H : Hp) : List (Key × V) → List (Key × Dt) → Prop
  | nil : PRk K H [] []
  | cons {k : Key} {v : V} {y : Dt} {r : List (Key × V)} {s : List (Key × Dt)} : Ho K H v y [] → PRk K H r s → PRk K H ((k, v) :: r) ((k, y) :: s)
theorem PRk.stay (hb : ∀ b xs, Rd H b (.tup xs) → Rd H' b (.tup xs)) (hz : ∀ b o u, H b = some (.frz o u) → H' b = some (.frz o u)) {r : List (Key × V)} {s : List (Key × Dt)} (h : PRk K H r s) : PRk K H' r s := by
  induction h with
  | nil => exact .nil
  | cons q _ ih => exact .cons (q.stay hb hz fun b z => nomatch z) ih
theorem PRk.any {k : Key} {r : List (Key × V)} {s : List (Key × Dt)} (h : PRk K H r s) : (r.any fun kv => decide (kv.1 = k)) = s.any fun kv => decide (kv.1 = k) := by
  induction h with
  | nil => rfl
  | cons q _ ih => rw [List.any_cons, List.any_cons, ih]
theorem PRk.app {r r2 : List (Key × V)} {s s2 : List (Key × Dt)} (h : PRk K H r s) (h2 : PRk K H r2 s2) : PRk K H (r ++ r2) (s ++ s2) := by
  induction h with
  | nil => exact h2
  | cons q _ ih => exact .cons q ih
theorem PRk.put {k : Key} {v : V} {y : Dt} {r : List (Key × V)} {s : List (Key × Dt)} (h : PRk K H r s) (hv : Ho K H v y []) : PRk K H (putK r k v) (putD s k y) := by
  unfold putK putD
  rw [h.any]
  split
  · induction h with
    | nil => exact .nil
    | @cons k2 v2 y2 r s q t ih =>
      rename_i hx
      rw [List.map_cons, List.map_cons]
      have tail : PRk K H (r.map fun kv => if kv.1 = k then (kv.1, v) else kv) (s.map fun kv => if kv.1 = k then (kv.1, y) else kv) := by
        clear ih hx q
        induction t with
        | nil => exact .nil
        | @cons k3 v3 y3 r s q t ih =>
          rw [List.map_cons, List.map_cons]
          by_cases e : k3 = k
          · simp only [e, if_true]
            exact .cons hv ih
          · simp only [e, if_false]
            exact .cons q ih
      by_cases e : k2 = k
      · simp only [e, if_true]
        exact .cons hv tail
      · simp only [e, if_false]
        exact .cons q tail
  · exact h.app (.cons hv .nil)
theorem PRk.keys {r : List (Key × V)} {s : List (Key × Dt)} (h : PRk K H r s) : (r.map fun p => keyD p.1) = s.map fun p => keyD p.1 := by
  induction h with
  | nil => rfl
  | cons q _ ih => rw [List.map_cons, List.map_cons, ih]
/-- one item -/
def dcS (t : Vl → Ev → Option Ev) (c : Ev → Ou Bool) (kf vf : Ev → Ou Vl) (r0 : Ev) (x : Dt) : Option (Option (Key × Dt)) := match t (x, .c) r0 with
  | none => none
  | some r1 => match c r1 with
    | .ok false _ => some none
    | .ok true r2 => match kf r2 with
      | .ok (kd, _) r3 => match keyOf kd with
        | some k => match vf r3 with
          | .ok (y, _) _ => if y.flat = true then some (some (k, y)) else none
          | _ => none
        | none => none
      | _ => none
    | _ => none
def dcL (t : Vl → Ev → Option Ev) (c : Ev → Ou Bool) (kf vf : Ev → Ou Vl) (r0 : Ev) : List Dt → List (Key × Dt) → Option (List (Key × Dt))
  | [], acc => some acc
  | x :: xs, acc => match dcS t c kf vf r0 x with
    | none => none
    | some none => dcL t c kf vf r0 xs acc
    | some (some (k, y)) => dcL t c kf vf r0 xs (putD acc k y)
/-- a dict comprehension; nothing of the environment is owned behind it -/
def mDc (vs : List Nat) (s : Ev → Ou (List Dt)) (t : Vl → Ev → Option Ev) (c : Ev → Ou Bool) (kf vf : Ev → Ou Vl) : Ev → Ou Vl := fun r => match s r with
  | .ok xs r1 => if xs.length ≤ LIM then
      match dcL t c kf vf (wipeE (coldE r1) vs) xs [] with
      | some acc => .ok (.m (acc.map fun p => keyD p.1) (acc.map (·.2)), .c) (coldE r1)
      | none => .no
    else .no
  | .ex c fs r1 => .ex c fs r1
  | .no => .no
end
section
variable {X : Cx} {cl : Str → Addr} {W : WX} {K : PySem.W.Frag} {M : Addr → Prop} {H : Hp}
/-- min(d.values()), one entry -/
def fMinO : List Dt → Option Vl
  | [.m [_] [y]] => some (y, .c)
  | _ => none
end
end Y
namespace Y
open PySem L2 PyProof.Rows
end Y
namespace Y
open PySem L2 PyProof.Rows PySem.W
end Y
namespace L2
open PySem PySem.Spec PyProof.Rows
end L2
namespace Y
open PySem L2 PyProof.Rows
end Y
namespace Y
open PySem L2 PyProof.Rows
section
variable {X : Cx} {cl : Str → Addr} {W : WX} {K : PySem.W.Frag} {M : Addr → Prop} {H : Hp} {σ : L2.St}
/-- a variable read for the last time -/
def mVo (i : Nat) : Ev → Ou Vl := fun r => match r[i]? with
  | some (some x) => .ok x (r.set i none)
  | _ => .no
def mTupO (fs : List (Ev → Ou Vl)) : Ev → Ou Vl := fun r => match evH fs r with
  | .ok xs r1 => if xs.length ≤ LIM ∧ xs.all zfl = true then .ok (.t (xs.map (·.1)), .a) r1 else .no
  | .ex c fs r1 => .ex c fs r1
  | .no => .no
/-- an item of a tuple that owns it -/
def mIxA (f : Ev → Ou Vl) (k : Nat) : Ev → Ou Vl := fun r => match f r with
  | .ok (.t xs, .a) r1 => match xs[k]? with
    | some y => .ok (y, .a) r1
    | none => .no
  | .ok _ _ => .no
  | .ex c fs r1 => .ex c fs r1
  | .no => .no
theorem HoL.at_ {vs : List V} {xs : List Dt} {F : List Addr} (h : HoL K H vs xs F) : ∀ {k : Nat} {y : Dt}, xs[k]? = some y → ∃ v F', vs[k]? = some v ∧ Ho K H v y F' ∧ (∀ b ∈ F', b ∈ F) ∧ (F.Nodup → F'.Nodup) := by
  induction h using HoL.rec (motive_1 := fun _ _ _ _ => True) with
  | nil => intro k y e; simp at e
  | @cons v vs x xs F F' a b _ ih =>
    intro k y e
    cases k with
    | zero =>
      simp at e
      subst e
      exact ⟨v, F, rfl, a, fun b hb => List.mem_append_left _ hb, fun n => (List.nodup_append.mp n).1⟩
    | succ k =>
      obtain ⟨w, F2, h1, h2, h3, h4⟩ := ih (by simpa using e)
      exact ⟨w, F2, by simpa using h1, h2, fun b hb => List.mem_append_right _ (h3 b hb), fun n => h4 (List.nodup_append.mp n).2.1⟩
  | _ => trivial
end
end Y
namespace Y
open PySem L2 PyProof.Rows
section
variable {X : Cx} {cl : Str → Addr} {W : WX} {io : Bool}
theorem js_asgK {tg e : Expr} {g : TG} {f : Ev → Ou Vl} {t : Vl → Ev → Option Ev} {pos : Pos} (hg : Takes X W → PG X tg g) (ht : TgOk X.K io g t) (he : JE X cl W e f) (hs : swapsWithSole [tg] e pos.line X.env = pure false := by rfl) (hw : swappedStores [tg] e X.env = pure none := by rfl)
    (h1 : (assignEach [tg] X.env).map (·.2) = [assign tg X.env] := by rfl) : JS X cl W io (.Assign [tg] e pos) (sAsg f t) := fun tk =>
  (ps_asg (he tk) (hg tk) hs hw h1).yimp fun _ _ _ q => asg_go ht q
end
end Y
namespace Y
open PySem L2 PyProof.Rows
section
variable {X : Cx} {cl : Str → Addr} {W : WX}
def ix2G (x z : Dt) (k : Int) (r1 : Ev) : Ou Vl := match z with
  | .i l => match getP x [k, l] with
    | some y => if y.flat = true then .ok (y, .c) r1 else .no
    | none => .no
  | _ => .no
def mIx2 (i : Nat) (f : Ev → Ou Vl) (j : Nat) : Ev → Ou Vl := fun r => match r[i]? with
  | some (some _) => match f r with
    | .ok (.i k, _) r1 => match r1[i]? with
      | some (some (x, _)) => match r1[j]? with
        | some (some (z, _)) => ix2G x z k r1
        | _ => .no
      | _ => .no
    | .ok _ _ => .no
    | .ex c fs r1 => .ex c fs r1
    | .no => .no
  | _ => .no
end
end Y
namespace Y
open PySem L2 PyProof.Rows
section
variable {K : PySem.W.Frag} {cl : Str → Addr} {W : WX} {io : Bool} {M M' : Addr → Prop} {H H' : Hp} {G G' : Nat → List Addr} {r r' : Ev} {σ : L2.St}
theorem hot_upO {a : Addr} {u : HO} (ht : Hotty M H) (hu : hotO u) : Hotty M (upd H a u) := fun b z => by
  by_cases q : b = a
  · rw [q]; exact ⟨_, upd_same, hu⟩
  · rw [upd_ne q]; exact ht b z
theorem hot_ne {a b : Addr} {u w : HO} (h : H b = some u) (ha : H a = some w) (hw : hotO w) (hu : ¬ hotO u) : b ≠ a := fun q => by
  rw [q, ha] at h; cases h; exact hu hw
theorem Ho.upO {a : Addr} {u w : HO} {v : V} {x : Dt} {F : List Addr} (h : Ho K H v x F) (ha : H a = some w) (hw : hotO w) (hn : a ∉ F) : Ho K (upd H a u) v x F :=
  h.stay (fun b xs z => by
    rcases z with z | ⟨o, z⟩
    · exact .inl (by rw [upd_ne (hot_ne z ha hw fun q => q)]; exact z)
    · exact .inr ⟨o, by rw [upd_ne (hot_ne z ha hw fun q => q)]; exact z⟩) (fun b o w z => by rw [upd_ne (hot_ne z ha hw fun q => q)]; exact z) fun b hb => upd_ne fun q => hn (q ▸ hb)
theorem HoL.upO {a : Addr} {u w : HO} {v : List V} {x : List Dt} {F : List Addr} (h : HoL K H v x F) (ha : H a = some w) (hw : hotO w) (hn : a ∉ F) : HoL K (upd H a u) v x F :=
  h.stay (fun b xs z => by
    rcases z with z | ⟨o, z⟩
    · exact .inl (by rw [upd_ne (hot_ne z ha hw fun q => q)]; exact z)
    · exact .inr ⟨o, by rw [upd_ne (hot_ne z ha hw fun q => q)]; exact z⟩) (fun b o w z => by rw [upd_ne (hot_ne z ha hw fun q => q)]; exact z) fun b hb => upd_ne fun q => hn (q ▸ hb)
/-- one slot's own thing is changed -/
theorem hot_go {i : Nat} {x' : Dt} {a : Addr} {u' : HO} {F F' : List Addr} (e : ER K r σ G M H) (hv : σ[i]? = some (some (.ref a))) (aG : a ∈ G i) (hu : hotO u') (ho : Ho K (upd H a u') (.ref a) x' F') (nd : F'.Nodup) (sub : ∀ b ∈ F', b ∈ G i ∨ b ∈ F) (hot : ∀ b ∈ F, M b ∧ ∀ j, b ∉ G j) :
    ER K (r.set i (some (x', .a))) σ (fun j => if j = i then F' else G j) M (upd H a u') :=
  e.wr hv (fun b o h hb => by rw [upd_ne fun q => hb (by rw [q]; exact aG)]; exact h) (fun b z => .inl z) (fun j b _ hb => e.sub j b hb) (hot_upO e.hot hu) (m' := .a) ho nd fun b hb => by
    rcases sub b hb with z | z
    · exact ⟨e.sub i b z, fun j hj y => e.dj j i hj b y z⟩
    · exact ⟨(hot b z).1, fun j _ => (hot b z).2 j⟩
theorem PRk.ho {r : List (Key × V)} {s : List (Key × Dt)} (h : PRk K H r s) : HoL K H (r.map (·.2)) (s.map (·.2)) [] := by
  induction h with
  | nil => exact .nil
  | cons q _ ih => exact .cons (F := []) (F' := []) q ih
def dM (acc : List (Key × Dt)) : Dt := .m (acc.map fun p => keyD p.1) (acc.map (·.2))
theorem mk_dK (ht : Hotty M H) {p : Addr} {kvs : List (Key × V)} {acc : List (Key × Dt)} (hp : H p = none) (h : PRk K H kvs acc) : Mk K H M (.ref p) (dM acc) .a (upd H p (.dK kvs)) [p] := by
  refine ⟨same_new hp, fun b z => by rw [List.mem_singleton.mp z]; exact hp, by simp, ?_⟩
  show Ho K _ _ _ _
  unfold dM
  rw [← h.keys]
  have h2 := h.ho
  refine .m upd_same (HoL.stay (fun b xs z => ?_) (fun b o u z => ?_) h2 fun b z => nomatch z)
  · rcases z with z | ⟨o, z⟩
    · exact .inl (same_new hp _ _ z)
    · exact .inr ⟨o, same_new hp _ _ z⟩
  · exact same_new hp _ _ z
def putM (ks vs : List Dt) (k : Key) (y : Dt) : List Dt × List Dt :=
  if (ks.any fun kd => decide (keyOf kd = some k)) = true then (ks, List.zipWith (fun kd v => if keyOf kd = some k then y else v) ks vs) else (ks ++ [keyD k], vs ++ [y])
def isM (i : Nat) (r : Ev) : Bool := match r[i]? with
  | some (some (.m _ _, .a)) => true
  | _ => false
/-- name[e] = v, the name's own dict; v flat -/
def tgD (i : Nat) (f : Ev → Ou Vl) : Vl → Ev → Option Ev := fun y r => if isM i r then
    match f r with
    | .ok (kd, _) r1 => match r1[i]? with
      | some (some (.m ks vs, .a)) => match keyOf kd with
        | some k => if y.1.flat = true ∧ ks.length < LIM then some (r1.set i (some (.m (putM ks vs k y.1).1 (putM ks vs k y.1).2, .a))) else none
        | none => none
      | _ => none
    | _ => none
  else none
end
section
variable {X : Cx} {cl : Str → Addr} {W : WX} {io : Bool}
/-- {} -/
def mDNew : Ev → Ou Vl := fun r => .ok (dM [], .a) r
theorem je_dnew {pos : Pos} : JE X cl W (.Dict [] [] pos) mDNew := fun tk => pe_dnewK.yimp fun σ H Q ⟨r, M, G, e, h⟩ p hp => by
  have mk : Mk X.K H M (.ref p) (dM []) .a (upd H p (.dK [])) [p] := mk_dK e.hot hp .nil
  obtain ⟨e', v', nM⟩ := mk.env e
  exact h _ _ _ _ [p] ⟨e', v', mk.rp, mk.nd, fun b hb => ⟨.inr hb, fun i hi => nM b hb (e.sub i b hi)⟩⟩
end
end Y
namespace Y
open PySem L2 PyProof.Rows
section
variable {K : PySem.W.Frag} {cl : Str → Addr} {W : WX} {io : Bool} {M M' : Addr → Prop} {H H' : Hp} {G G' : Nat → List Addr} {r r' : Ev} {σ : L2.St}
def ownV (x : Dt) : Vl := (x, if x.flat = true then .c else .a)
def tgsO : List (Vl → Ev → Option Ev) → List Dt → Ev → Option Ev
  | [], [], r => some r
  | t :: ts, x :: xs, r => (t (ownV x) r).bind (tgsO ts xs)
  | _, _, _ => none
def tgTO (ts : List (Vl → Ev → Option Ev)) : Vl → Ev → Option Ev := fun x r => match x with
  | (.t xs, .a) => tgsO ts xs r
  | _ => none
end
end Y
namespace Y
open PySem L2 PyProof.Rows PySem.Spec
section
variable {kx vx ta ia tb ib : Expr} {fa fb : List Expr} {scope : Scope} {pos : Pos}
abbrev dc2 (kx vx ta ia tb ib : Expr) (fa fb : List Expr) (scope : Scope) (pos : Pos) : Expr := .DictComp kx vx [⟨ta, ia, fa, 0⟩, ⟨tb, ib, fb, 0⟩] scope pos
end
/-- what τ knows, σ knows -/
def Knows (τ σ : L2.St) : Prop := τ.length = σ.length ∧ ∀ (j : Nat) v, τ[j]? = some (some v) → σ[j]? = some (some v)
theorem knows_wipe (σ : L2.St) (vs : List Nat) : Knows (wipe σ vs) σ := ⟨wipe_length _ _, fun j v e => (wipe_some e).1⟩
theorem Knows.at {σ τ : L2.St} {vs : List Nat} (h : wipe σ vs = τ) : Knows τ σ := h ▸ knows_wipe σ vs
end Y
namespace Y
open PySem L2 PyProof.Rows
section
variable {K : PySem.W.Frag} {cl : Str → Addr} {W : WX} {M M' M1 M4 M5 M6 : Addr → Prop} {H H' H1 H4 H5 H6 : Hp} {G G' G1 G4 G5 G6 : Nat → List Addr} {r r' r4 r5 r6 : Ev} {σ σ' σ4 : L2.St}
/-- pairs into a dict, the environment goes along -/
def dcE (vs : List Nat) (t : Vl → Ev → Option Ev) (c : Ev → Ou Bool) (kf vf : Ev → Ou Vl) : List Dt → Ev → List (Key × Dt) → Ou (List (Key × Dt))
  | [], r, acc => .ok acc r
  | x :: xs, r, acc => match t (x, .c) r with
    | none => .no
    | some r1 => match c r1 with
      | .ok false r2 => dcE vs t c kf vf xs (wipeE r2 vs) acc
      | .ok true r2 => match kf r2 with
        | .ok (kd, _) r3 => match keyOf kd with
          | some k => match vf r3 with
            | .ok (y, _) r4 => if y.flat = true then dcE vs t c kf vf xs (wipeE r4 vs) (putD acc k y) else .no
            | _ => .no
          | none => .no
        | _ => .no
      | _ => .no
def dc2E (vs vs1 : List Nat) (t : Vl → Ev → Option Ev) (c : Ev → Ou Bool) (s1 : Ev → Ou (List Dt)) (t1 : Vl → Ev → Option Ev) (c1 : Ev → Ou Bool) (kf vf : Ev → Ou Vl) : List Dt → Ev → List (Key × Dt) → Ou (List (Key × Dt))
  | [], r, acc => .ok acc r
  | x :: xs, r, acc => match t (x, .c) r with
    | none => .no
    | some r1 => match c r1 with
      | .ok false r2 => dc2E vs vs1 t c s1 t1 c1 kf vf xs (wipeE r2 vs) acc
      | .ok true r2 => match s1 r2 with
        | .ok ys r3 => if acc.length + ys.length ≤ LIM then
            match dcE vs1 t1 c1 kf vf ys (wipeE r3 vs1) acc with
            | .ok acc1 r4 => dc2E vs vs1 t c s1 t1 c1 kf vf xs (wipeE r4 vs) acc1
            | _ => .no
          else .no
        | _ => .no
      | _ => .no
/-- the dict is its own -/
def mDc2 (vs vs1 : List Nat) (s : Ev → Ou (List Dt)) (t : Vl → Ev → Option Ev) (c : Ev → Ou Bool) (s1 : Ev → Ou (List Dt)) (t1 : Vl → Ev → Option Ev) (c1 : Ev → Ou Bool) (kf vf : Ev → Ou Vl) : Ev → Ou Vl := fun r => match s r with
  | .ok xs r1 => match dc2E vs vs1 t c s1 t1 c1 kf vf xs (wipeE r1 vs) [] with
    | .ok acc r2 => .ok (dM acc, .a) (rsE r1 vs r2)
    | _ => .no
  | .ex c fs r1 => .ex c fs r1
  | .no => .no
/-- a dict comprehension; the environment goes along, the dict is its own -/
def mDcE (vs : List Nat) (s : Ev → Ou (List Dt)) (t : Vl → Ev → Option Ev) (c : Ev → Ou Bool) (kf vf : Ev → Ou Vl) : Ev → Ou Vl := fun r => match s r with
  | .ok xs r1 => if xs.length ≤ LIM then match dcE vs t c kf vf xs (wipeE r1 vs) [] with
      | .ok acc r2 => .ok (dM acc, .a) (rsE r1 vs r2)
      | _ => .no
    else .no
  | .ex c fs r1 => .ex c fs r1
  | .no => .no
end
end Y
namespace Y
open PySem L2 PyProof.Rows PySem.Spec
section
variable {K : PySem.W.Frag} {cl : Str → Addr} {W : WX} {io : Bool} {M M' : Addr → Prop} {H H' : Hp} {G G' : Nat → List Addr} {r r' : Ev} {σ : L2.St}
/-- the state behind a change of a slot's own thing, as from the statement's beginning -/
theorem wr_evo {x : Dt} {m : Md} {w : V} {F F' : List Addr} {i : Nat} {a : Addr} {u : HO} (e : ER K r σ G M H) (p : PX K r' σ H M G w x m H' M' G' F) (hF : ∀ b ∈ F', b ∈ G' i) (ha : a ∈ G' i) :
    Evo H M G (upd H' a u) M' (fun j => if j = i then F' else G' j) [] := by
  have na : ∀ b o, H b = some o → (∀ j, b ∉ G j) → b ≠ a := fun b o h hb q => by
    rcases p.ev.env i a ha with ⟨j, z⟩ | z
    · exact hb j (by rw [q]; exact z)
    · rw [q, z] at h; cases h
  refine ⟨fun b o h hb => by rw [upd_ne (na b o h hb)]; exact p.ev.pres b o h hb, fun b h => ?_, p.ev.grow, p.ev.keep, fun j b hb => ?_, fun _ z => nomatch z⟩
  · by_cases q : b = a
    · rw [q, upd_same] at h; cases h
    · rw [upd_ne q] at h; exact p.ev.dom b h
  · by_cases q : j = i
    · simp only [if_pos q] at hb
      exact p.ev.env i b (hF b hb)
    · simp only [if_neg q] at hb
      exact p.ev.env j b hb
end
end Y
namespace Y
open PySem L2 PyProof.Rows PySem.Spec
section
variable {prog : Program} {w : World} {A : Around} {E : Value → Shared → Prop} {s : Shared} {T : String} {r d : Addr} {n : Nat} {P : Nat → Value → Prop} {OK : Heap → Prop}
/-- a source's items into a new row -/
theorem collect_kdl {Q : List Value → Shared → Prop} (K : PySem.W.KdlSrc prog w T r d n P OK) (hh : A.handled = none) (hok : OK s.heap) (hn : n ≤ sizeLine)
    (hQ : ∀ h' tk (items : Array Value), (∀ b o, s.heap.get? b = some o → h'.get? b = some o) → s.heap.objs.size ≤ h'.objs.size → ItemsOf P items n → Q items.toList { s with heap := h', toks := tk }) : wpAny (model prog w) A (collect (.ref r)) Q E s := by
  unfold collect
  refine wpAny_bind (wpAny_runValue (codeAny_builtin F.entry_proto_collect ?_))
  rw [Around.under_plainId F.plain_proto_collect _]
  show wpAny _ A.in1 (newList [] >>= fun l => again (.builtin "list.__iadd__" ⟨[l, .ref r], []⟩)) _ _ s
  refine wpAny_bind (wpAny_newObj_type ?_)
  refine wpAny_pure ⟨plainId_quiet F.plain_list_iadd _, codeAny_builtin F.entry_list_iadd ?_⟩
  rw [Around.under_plainId F.plain_list_iadd _]
  show wpAny _ A.in1 (Builtin.List.listExtendWith (.ref s.heap.objs.size) (.ref r) (.ref s.heap.objs.size)) _ _ _
  have lt := K.there _ hok
  have hS0 : ({ s with heap := s.heap.push { cls := .type "list", data := .seq ([] : List Value).toArray } } : Shared).heap.get? s.heap.objs.size = some { cls := .type "list", data := .seq #[] 0 } := Heap.get?_push_size _ rfl
  have fin : ∀ {h' : Heap} {tk : Nat} {items : Array Value} {c' : Nat}, (∀ b o, s.heap.get? b = some o → h'.get? b = some o) → h'.get? s.heap.objs.size = some { cls := .type "list", dict := none, data := .seq items c', slots := #[] } → ItemsOf P items n → wpAny (model prog w) A (match Value.ref s.heap.objs.size with
      | .ref a => do match (← load a).data with
          | .seq xs _ => pure xs.toList
          | _ => unsupported "internal:collect"
      | _ => unsupported "internal:collect") Q E { s with heap := h', toks := tk } := fun {h' tk items c'} hk hS it => by
    show wpAny _ A (load s.heap.objs.size >>= _) _ _ _
    refine wpAny_bind (wpAny_load hS ?_)
    exact wpAny_pure (hQ h' tk items hk (Nat.le_of_lt (Heap.lt_size hS)) it)
  refine wpAny_mono (PySem.W.kdl_extend (A := A) (R := fun r s' => ∃ h' tk items c', r = .ok (.ret (.ref s.heap.objs.size)) ∧ s' = { s with heap := h', toks := tk } ∧ (∀ b o, s.heap.get? b = some o → h'.get? b = some o) ∧ h'.get? s.heap.objs.size = some { cls := .type "list", dict := none, data := .seq items c', slots := #[] } ∧ ItemsOf P items n)
    (s := { s with heap := s.heap.push { cls := .type "list", data := .seq ([] : List Value).toArray } }) K hh (K.keep _ _ hok fun b _ o e => Heap.get?_push_of_some _ e) s.heap.objs.size (Nat.ne_of_gt lt.1) (Nat.ne_of_gt lt.2) _ 0 hS0 (fun h' tk items c' hk hS it => ⟨h', tk, items, c', rfl, rfl, fun b o e => hk b o (Nat.ne_of_lt (Heap.lt_size e)) (Heap.get?_push_of_some _ e), hS, it⟩) hn) (fun f s' h => ?_) (fun e s' h => ?_)
  · cases f with
    | done f =>
      obtain ⟨h', tk, items, c', e, rfl, a1, a2, a3⟩ := h
      cases e
      exact fin a1 a2 a3
    | again c' => exact ⟨h.1, codeAny_mono h.2 fun r s2 hr => by
        obtain ⟨h', tk, items, c', rfl, rfl, a1, a2, a3⟩ := hr
        exact fin a1 a2 a3⟩
  · obtain ⟨_, _, _, _, e, _⟩ := h
    cases e
end
end Y
namespace Y
open PySem L2 PyProof.Rows
end Y
namespace L2
open PySem PySem.Spec PyProof.Rows
end L2
namespace Y
open PySem L2 PyProof.Rows
section
variable {X : Cx} {cl : Str → Addr} {W : WX} {K : PySem.W.Frag}
def fRev0T : List Dt → Option Vl
  | [.t xs] => some (.t (xs.drop 1).reverse, .c)
  | _ => none
end
end Y
namespace Y
open PySem L2 PyProof.Rows
def mPk (f : List Dt → Option Vl) (as : List Am) : Ev → Ou Vl := fun r => match evA as r with
  | .ok ys r1 => match look r1 ys with
    | some xs => match f xs with
      | some (x, m) => .ok (x, m) (if zfl (x, m) then r1 else frz ys r1)
      | none => .no
    | none => .no
  | .ex c fs r1 => .ex c fs r1
  | .no => .no
section
variable {X : Cx} {K : PySem.W.Frag} {cl : Str → Addr} {W : WX} {M M' : Addr → Prop} {H H' : Hp} {G G' : Nat → List Addr} {r r' : Ev} {σ : L2.St}
theorem Mk.px3 {v : V} {x : Dt} {m : Md} {F : List Addr} {G0 : Nat → List Addr} {M0 M1 : Addr → Prop} {H0 : Hp} (e : ER K r σ G M H) (ev : Evo H0 M0 G0 H M G []) (ht : Hotty M0 H0)
    (p : Mk K H M1 v x m H' F) (hx : zfl (x, m) = true) : PX K r σ H0 M0 G0 v x m H' (fun b => M b ∨ b ∈ F) G F := by
  obtain ⟨e', v2, nM⟩ := p.env e
  exact ⟨e', ev.trans ht v2, p.rp.zfl hx, p.nd, fun b hb => ⟨.inr hb, fun i hi => nM b hb (e.sub i b hi)⟩⟩
theorem mPk_ok {rr : List V → Hp → VK → Prop} {f : List Dt → Option Vl} (hp : Pr K rr f) {as : List Am} {Q : VK} (h : tI K cl W (mPk f as) σ H Q) : tOs K cl W as σ H fun vs H1 => rr vs H1 Q := by
  obtain ⟨r, M, G, e, h⟩ := h
  refine tOs_ok as e ?_
  simp only [mPk] at h
  cases ha : evA as r with
  | no => rw [ha] at h; exact h
  | ex c fs r1 => rw [ha] at h; exact h
  | ok ys r1 =>
    rw [ha] at h
    simp only at h
    intro vs H1 M1 G1 e1 v1 a1
    cases hl : look r1 ys with
    | none => rw [hl] at h; exact h.elim
    | some xs =>
      rw [hl] at h
      simp only at h
      cases hf : f xs with
      | none => rw [hf] at h; exact h.elim
      | some xm =>
        obtain ⟨x, m⟩ := xm
        rw [hf] at h
        simp only at h
        have cc : CoL K (fun b => M1 b ∧ b ∉ owns G1 ys) H1 vs xs := look_cold e1 (fun b z => z.1) (fun b hb z => z.2 hb) a1 hl
        have ht1 : Hotty (fun b => M1 b ∧ b ∉ owns G1 ys) H1 := fun b z => e1.hot b z.1
        by_cases hx : zfl (x, m) = true
        · rw [if_pos hx] at h
          exact hp _ H1 vs xs x m Q ht1 cc hf fun v H2 F p => h v H2 _ _ F (p.px3 e1 v1 e.hot hx)
        · rw [if_neg hx] at h
          obtain ⟨G2, e2, s2⟩ := e1.frz ys
          have v2 : Evo H1 M1 G1 H1 (fun b => M1 b ∧ b ∉ owns G1 ys) G2 [] := ⟨fun _ _ h _ => h, fun _ h => h, fun b z => .inl z.1, fun b h hb => ⟨h, fun z => let ⟨i, q⟩ := mem_owns z; hb i q⟩, fun i b hb => .inl ⟨i, s2 i b hb⟩, fun _ h => nomatch h⟩
          exact hp _ H1 vs xs x m Q ht1 cc hf fun v H2 F p => h v H2 _ _ F (p.px2 e2 (v1.trans e.hot v2) e.hot)
theorem je_callBk {id : String} {x : Str} {e : Expr} {es : List Expr} {r : List V → Hp → VK → Prop} {as : List Am} {p pos : Pos} {f : List Dt → Option Vl} (hc : CallR X (.builtin id) r) (hp : Pr X.K r f) (hg : Gl X x) (hm : X.mg x = none) (hv : bootBuiltins x = some (.builtin id))
    (ha : JA X cl W (e :: es) as) (hn : x ≠ "__name__" := by decide) (hdb : (x == ("__debug__" : Str)) = false := by decide) (he : starEach (e :: es) X.env = (false, eval e X.env) :: starEach es X.env := by rfl) (hpl : (backTo pos (starEach es X.env)).any (·.1) = false := by rfl) :
    JE X cl W (.Call (.Name x p) (e :: es) [] pos) (mPk f as) := fun tk => (pe_callB hc hg hm hv (ha.pa tk) hn hdb he hpl).yimp fun _ _ _ q => mPk_ok hp q
end
end Y
namespace L2
open PySem PySem.Spec PyProof.Rows
end L2
namespace Y
open PySem L2 PyProof.Rows
section
variable {X : Cx} {K : PySem.W.Frag}
def fSrtSetL : List Dt → Option Vl
  | [.l xs] => match intsL xs with
    | some ns => if ns.length < 64 then some (.l ((ssrt ns).map .i), .t) else none
    | none => none
  | _ => none
end
end Y
namespace Y
open PySem L2 PyProof.Rows
def putFD (f : Str) (x : Dt) : List Str → List Dt → List Dt
  | n :: ns, y :: ys => if n = f then x :: ys else y :: putFD f x ns ys
  | _, _ => [x]
def putFN (f : Str) : List Str → List Str
  | [] => [f]
  | n :: ns => if n = f then n :: ns else n :: putFN f ns
section
variable {K : PySem.W.Frag} {cl : Str → Addr} {W : WX} {io : Bool} {M M' : Addr → Prop} {H H' : Hp} {G G' : Nat → List Addr} {r r' : Ev} {σ : L2.St} {C : Addr} {c f : Str}
def tgF (i : Nat) (c f : Str) : Vl → Ev → Option Ev := fun y r => match r[i]? with
  | some (some (.o c' ns fs, .a)) => if c' = c ∧ zfl y = true ∧ ns.length < 900 then some (r.set i (some (.o c (putFN f ns) (putFD f y.1 ns fs), .a))) else none
  | _ => none
/-- name.f[name2] = v, v flat -/
def tgFD (i : Nat) (c f : Str) (j : Nat) : Vl → Ev → Option Ev := fun y r => match r[i]?, r[j]? with
  | some (some (.o c' ns fs, .a)), some (some (kd, _)) => match (ns.zip fs).lookup f, keyOf kd with
    | some (.m ks vs), some k => if c' = c ∧ y.1.flat = true ∧ ks.length < LIM then some (r.set i (some (.o c ns (putFD f (.m (putM ks vs k y.1).1 (putM ks vs k y.1).2) ns fs), .a))) else none
    | _, _ => none
  | _, _ => none
def dropM (k : Key) : List Dt → List Dt → List Dt × List Dt
  | kd :: ks, v :: vs => if keyOf kd = some k then dropM k ks vs else (kd :: (dropM k ks vs).1, v :: (dropM k ks vs).2)
  | _, _ => ([], [])
/-- del name.f[name2] -/
def sDelF (i : Nat) (c f : Str) (j : Nat) : Ev → So := fun r => match r[i]?, r[j]? with
  | some (some (.o c' ns fs, .a)), some (some (kd, _)) => match (ns.zip fs).lookup f, keyOf kd with
    | some (.m ks vs), some k => if c' = c ∧ (ks.any fun kd => decide (keyOf kd = some k)) = true then .nx (r.set i (some (.o c ns (putFD f (.m (dropM k ks vs).1 (dropM k ks vs).2) ns fs), .a))) else .no
    | _, _ => .no
  | _, _ => .no
end
end Y
namespace Y
open PySem L2 PyProof.Rows
def okO (i : Nat) (r : Ev) : Bool := (r.set i none).all flS
def mLendO (i : Nat) (f : Ev → Ou Vl) : Ev → Ou Vl := fun r => match r[i]? with
  | some (some (.o c ns fs, .a)) => match f (r.set i (some (.o c ns fs, .c))) with
    | .ok xm r' => if zfl xm && okO i r' && decide (i < r'.length) then .ok xm (r'.set i (some (.o c ns fs, .a))) else .ok xm r'
    | .ex c fs r' => .ex c fs r'
    | .no => .no
  | _ => f r
def fnMkO (c : Str) (fn : Fn) : Fn := fun xs => match fn ((.o c [] [], .a) :: xs) with
  | .rt (.n, _) z => .rt z (.n, .c)
  | .ex ce fs _ => .ex ce fs (.n, .c)
  | _ => .no
section
variable {P : Program} {w : World} {K : PySem.W.Frag} {mg : Str → Option Value} {base : Heap} {cl : Str → Addr}
theorem Rp.non {M : Addr → Prop} {H : Hp} {m : Md} {v : V} {F : List Addr} (h : Rp K M H m v .n F) : v = .non := by
  cases m with
  | c => cases h.1; rfl
  | t => obtain ⟨_, _, _, _, z, _⟩ := h; cases z
  | a => have h : Ho K H v .n F := h; cases h; rfl
end
def mMeI (c m : Str) (fn : Fn) (i : Nat) (as : List Am) : Ev → Ou Vl := fun r => match r[i]? with
  | some (some (x, _)) => if isO c m x then mCI fn i as r else .no
  | _ => .no
end Y
namespace Y
open PySem L2 PyProof.Rows
section
variable {K : PySem.W.Frag} {cl : Str → Addr} {W : WX} {io : Bool} {M M' : Addr → Prop} {H H' : Hp} {G G' : Nat → List Addr} {r r' : Ev} {σ : L2.St} {C : Addr} {c f : Str}
/-- what was cold stays as it was -/
def coldS : Option Vl → Bool
  | some (_, .c) => true
  | _ => false
def mixE (r r' : Ev) : Ev := List.zipWith (fun o o' => if coldS o = true then o else o') r r'
def okX (i : Nat) (r r' : Ev) : Bool := ((List.zipWith (fun o o' => coldS o || flS o') r r').set i true).all id
/-- name.f.append(v), v flat -/
def sFApp (i : Nat) (c f : Str) (g : Ev → Ou Vl) : Ev → So := fun r => match r[i]? with
  | some (some (.o c' ns fs, .a)) => match (ns.zip fs).lookup f with
    | some (.l xs) => match g (r.set i (some (.o c' ns fs, .c))) with
      | .ok (y, m) r' => if c' = c ∧ y.flat = true ∧ okX i r r' = true ∧ i < (mixE r r').length ∧ xs.length < LIM then .nx ((mixE r r').set i (some (.o c' ns (putFD f (.l (xs ++ [y])) ns fs), .a))) else .no
      | _ => .no
    | _ => .no
  | _ => .no
/-- name.f.pop() -/
def sFPop (i : Nat) (c f : Str) : Ev → So := fun r => match r[i]? with
  | some (some (.o c' ns fs, .a)) => match (ns.zip fs).lookup f with
    | some (.l xs) => if c' = c ∧ xs ≠ [] then .nx (r.set i (some (.o c' ns (putFD f (.l xs.dropLast) ns fs), .a))) else .no
    | _ => .no
  | _ => .no
end
section
variable {X : Cx} {cl : Str → Addr} {W : WX} {io : Bool} {C : Addr} {c f : Str}
def sFin (g k : Ev → So) : Ev → So := fun r => match g r with
  | .nx r1 => match k r1 with
    | .nx r2 => .nx r2
    | _ => .no
  | _ => .no
end
end Y
namespace Y
open PySem L2 PyProof.Rows
/-- enumerate(xs, k) -/
def sEnumK : List Dt → Option (List Dt)
  | [.l xs, .i k] => if -(2 ^ 60) ≤ k ∧ k ≤ 2 ^ 60 then some (enumD k xs) else none
  | [.t xs, .i k] => if -(2 ^ 60) ≤ k ∧ k ≤ 2 ^ 60 then some (enumD k xs) else none
  | _ => none
end Y
namespace Y
open PySem L2 PyProof.Rows
/-- these are lists with that in them -/
inductive LsL (H : Hp) : List V → List (List V) → Prop
  | nil : LsL H [] []
  | cons {a : Addr} {us : List V} {vs : List V} {uss : List (List V)} : H a = some (.lst us) → LsL H vs uss → LsL H (.ref a :: vs) (us :: uss)
theorem LsL.len {H : Hp} {vs : List V} {uss : List (List V)} (h : LsL H vs uss) : vs.length = uss.length := by
  induction h with
  | nil => rfl
  | cons _ _ ih => simp [ih]
theorem LsL.at {H : Hp} {vs : List V} {uss : List (List V)} (h : LsL H vs uss) : ∀ {i : Nat} {us : List V}, uss[i]? = some us → ∃ a, vs[i]? = some (.ref a) ∧ H a = some (.lst us) := by
  induction h with
  | nil => intro i us e; simp at e
  | @cons a us0 vs uss h0 _ ih =>
    intro i us e
    cases i with
    | zero =>
      simp only [List.getElem?_cons_zero, Option.some.injEq] at e
      subst e
      exact ⟨a, rfl, h0⟩
    | succ i => simpa using ih (i := i) (by simpa using e)
/-- .. on data -/
def listsD : List Dt → Option (List (List Dt))
  | [] => some []
  | .l xs :: r => (listsD r).map (xs :: ·)
  | _ => none
def fSumL : List Dt → Option Vl
  | [.l xs, .l []] => match listsD xs with
    | some ys => if ys.flatten.length ≤ LIM then some (.l ys.flatten, .c) else none
    | none => none
  | _ => none
end Y
namespace Y
open PySem L2 PyProof.Rows
section
variable {X : Cx} {K : PySem.W.Frag} {cl : Str → Addr} {W : WX}
/-- {k: v, ..} of constants, at most fifteen; an own dict -/
def mDDisp (ps : List (Key × Dt)) : Ev → Ou Vl := fun r => .ok (dM (ps.foldl (fun acc kv => putD acc kv.1 kv.2) []), .a) r
end
end Y
namespace Y
open PySem L2 PyProof.Rows
end Y
namespace Y
open PySem L2 PyProof.Rows
/-- truths, the true ones first -/
def srtB (bs : List Bool) : List Bool := List.replicate (bs.count true) true ++ List.replicate (bs.count false) false
section
variable {X : Cx} {K : PySem.W.Frag} {cl : Str → Addr} {W : WX}
/-- .. on data -/
def fSrtB : List Dt → Option Vl
  | [.l xs] => match blsL xs with
    | some bs => some (.l ((srtB bs).map .b), .t)
    | none => none
  | _ => none
end
end Y
namespace Y
open PySem L2 PyProof.Rows
end Y
namespace Y
open PySem L2
def okA (r : Ev) : Bool := r.all fun o => match o with
  | some (x, .t) => zfl (x, .t)
  | _ => true
theorem okA_at {r : Ev} (h : okA r = true) (j : Nat) (y : Dt) (hj : r[j]? = some (some (y, .t))) : zfl (y, .t) = true := List.all_eq_true.mp h (some (y, .t)) (List.mem_of_getElem? hj)
end Y
namespace Y
open PySem L2 PyProof.Rows
end Y
namespace Y
open PySem L2 PyProof.Rows
end Y
namespace Y
open PySem L2 PyProof.Rows
mutual
/-- v is the key n -/
inductive NkAt (K : PySem.W.Frag) (H : Hp) : V → NestedKey → Prop
  | num (x : Int) : NkAt K H (.int x) (.num x)
  | tup {a : Addr} {vs : List V} {ns : List NestedKey} : SqT K H a vs → NkL K H vs ns → NkAt K H (.ref a) (.tup ns)
inductive NkL (K : PySem.W.Frag) (H : Hp) : List V → List NestedKey → Prop
  | nil : NkL K H [] []
  | cons {v : V} {vs : List V} {n : NestedKey} {ns : List NestedKey} : NkAt K H v n → NkL K H vs ns → NkL K H (v :: vs) (n :: ns)
end
/-- fit to stand as a key -/
def NkT (K : PySem.W.Frag) (H : Hp) (v : V) (n : NestedKey) : Prop := ∃ p, v = .ref p ∧ NkAt K H v n ∧ n.depth ≤ 8
section
variable {X : Cx} {K : PySem.W.Frag} {M : Addr → Prop} {H H' : Hp} {pins : List (Addr × Obj)} {σ : L2.St} {s : Shared}
mutual
theorem Co.nk {v : V} : ∀ {x : Dt}, Co K M H v x → kyD x = true → NkAt K H v (keyN x)
  | .i a, c, _ => by rw [c.int]; exact .num a
  | .t xs, c, h => by
    obtain ⟨a, us, rfl, h1, c1⟩ := c.tup
    exact .tup h1 (CoL.nk c1 h)
theorem CoL.nk {vs : List V} : ∀ {xs : List Dt}, CoL K M H vs xs → kyL xs = true → NkL K H vs (keyNs xs)
  | [], c, _ => by cases c; exact .nil
  | x :: xs, c, h => by
    simp only [kyL, Bool.and_eq_true] at h
    cases c with
    | cons c1 c2 => exact .cons (Co.nk c1 h.1) (CoL.nk c2 h.2)
end
theorem Co.nkt {v : V} {x : Dt} (c : Co K M H v x) (h : kyT x = true) : NkT K H v (keyN x) := by
  cases x with
  | t xs =>
    simp only [kyT, Bool.and_eq_true, decide_eq_true_eq] at h
    obtain ⟨a, us, rfl, h1, c1⟩ := c.tup
    exact ⟨a, rfl, .tup h1 (CoL.nk c1 h.1), by show NestedKey.depth (.tup (keyNs xs)) ≤ 8; simp only [NestedKey.depth]; omega⟩
  | _ => cases h
mutual
theorem NkAt.is (I : Inv X pins σ H s) : ∀ {v : V} {n : NestedKey} {u : Value}, NkAt X.K H v n → RelV v u → NestedIs s.heap n u
  | _, _, u, .num x, r => by
    obtain ⟨t, rfl⟩ : ∃ t, u = Value.int x t := r
    exact .int _ _
  | _, _, u, .tup h q, r => by
    obtain rfl : u = Value.ref _ := r
    obtain ⟨its, rv, ⟨o, e1, e2, e3⟩, _⟩ := I.tuple h
    obtain ⟨n, e3⟩ := e3
    exact .tup e1 e2 e3 (by rw [List.toList_toArray]; exact NkL.is I q rv)
theorem NkL.is (I : Inv X pins σ H s) : ∀ {vs : List V} {ns : List NestedKey} {us : List Value}, NkL X.K H vs ns → Vals vs us → NestedAll s.heap ns us
  | _, _, _, .nil, r => by cases r; exact .nil
  | _, _, _, .cons h q, r => by
    cases r with
    | cons r1 r2 => exact .cons (NkAt.is I h r1) (NkL.is I q r2)
end
mutual
theorem NkAt.hash {w : World} : ∀ {v : V} {n : NestedKey}, NkAt K H v n → NestedKey.hash w n = hsN n
  | _, _, .num x => rfl
  | _, _, .tup h q => by rw [NestedKey.hash, hsN, NkL.hash q]
theorem NkL.hash {w : World} : ∀ {vs : List V} {ns : List NestedKey}, NkL K H vs ns → NestedKey.hashes w ns = hsNs ns
  | _, _, .nil => rfl
  | _, _, .cons h q => by rw [NestedKey.hashes, hsNs, NkAt.hash h, NkL.hash q]
end
/-- a dict by its entries -/
def KD (K : PySem.W.Frag) (H : Hp) (a : Addr) (es : List (NestedKey × Addr × V)) : Prop := Rd H a (ktO a es) ∧ ∀ e ∈ es, NkT K H (.ref e.2.1) e.1
abbrev KR : (NestedKey × Addr × V) → (NestedKey × Addr × Value) → Prop := fun p q => p.1 = q.1 ∧ p.2.1 = q.2.1 ∧ RelV p.2.2 q.2.2
theorem KR.mem {es : List (NestedKey × Addr × V)} {xs : List (NestedKey × Addr × Value)} (h : Paired KR es xs) {x : NestedKey × Addr × Value} (hx : x ∈ xs) : ∃ e ∈ es, KR e x := by
  induction h with
  | nil => nomatch hx
  | cons h1 _ ih =>
    rcases List.mem_cons.mp hx with rfl | hx
    · exact ⟨_, List.mem_cons_self, h1⟩
    · obtain ⟨e, h2, h3⟩ := ih hx
      exact ⟨e, List.mem_cons_of_mem _ h2, h3⟩
theorem KR.keys {es : List (NestedKey × Addr × V)} {xs : List (NestedKey × Addr × Value)} (h : Paired KR es xs) : xs.map (·.1) = es.map (·.1) := by
  induction h with
  | nil => rfl
  | cons h1 _ ih => rw [List.map_cons, List.map_cons, ih, h1.1]
theorem KD.heap {a : Addr} {es : List (NestedKey × Addr × V)} (I : Inv X pins σ H s) (D : KD X.K H a es) :
    (a == sysModules) = false ∧ es.length ≤ sizeLine ∧ (es.map (·.1)).Nodup ∧ ∃ xs, s.heap.DictOfH (nestedKind X.prog X.w) a xs ∧ Paired KR es xs := by
  obtain ⟨⟨h1, h2, h3, o, ents, ep, xs, e1, e2, e3, e4, e5⟩, _⟩ := D.1.ok I.hok
  refine ⟨h1, h2, h3, xs, ⟨o, ents, ep, e1, e2, e3, ?_, fun x hx => ?_, by rw [KR.keys e5]; exact h3⟩, e5⟩
  · rw [e4]
    refine List.map_congr_left fun x hx => ?_
    obtain ⟨e, he, r⟩ := KR.mem e5 hx
    obtain ⟨p, _, hk, _⟩ := D.2 e he
    show _ = (⟨NestedKey.hash X.w x.1, .ref x.2.1, x.2.2⟩ : DictEntry)
    rw [← r.1, NkAt.hash hk]
  · obtain ⟨e, he, r⟩ := KR.mem e5 hx
    obtain ⟨p, _, hk, hd⟩ := D.2 e he
    rw [← r.1, ← r.2.1]
    exact ⟨NkAt.is I hk rfl, hd⟩
theorem NkT.is {v : V} {n : NestedKey} {u : Value} (I : Inv X pins σ H s) (h : NkT X.K H v n) (r : RelV v u) : ∃ p, u = .ref p ∧ v = .ref p ∧ (nestedKind X.prog X.w).is s.heap n p := by
  obtain ⟨p, rfl, hk, hd⟩ := h
  obtain rfl : u = Value.ref p := r
  exact ⟨p, rfl, rfl, NkAt.is I hk rfl, hd⟩
def atV (es : List (NestedKey × Addr × V)) (n : NestedKey) : Option V := (es.find? fun e => decide (e.1 = n)).map (·.2.2)
theorem KR.at_ {es : List (NestedKey × Addr × V)} {xs : List (NestedKey × Addr × Value)} {n : NestedKey} (h : Paired KR es xs) : (atV es n = none ∧ atKey xs n = none) ∨ ∃ v p, atV es n = some v ∧ atKey xs n = some p ∧ RelV v p.2 := by
  induction h with
  | nil => exact .inl ⟨rfl, rfl⟩
  | @cons e x es xs h1 _ ih =>
    by_cases q : x.1 = n
    · exact .inr ⟨e.2.2, x.2, by simp [atV, h1.1, q], by simp [atKey, q], h1.2.2⟩
    · have q2 : ¬ e.1 = n := by rw [h1.1]; exact q
      simpa [atV, atKey, q, q2] using ih
theorem kroom (hu : X.A.units + 65 < cLine) : (nestedKind X.prog X.w).room X.A.in1 := by
  show X.A.in1.units + 8 < cLine
  simp only [Around.in1_units]; omega
theorem KD.is {a : Addr} {es : List (NestedKey × Addr × V)} (I : Inv X pins σ H s) (D : KD X.K H a es) :
    s.TypeIs (.ref a) "dict" ∧ (∀ b, Value.ref a = .ref b → ∃ ob, s.heap.get? b = some ob ∧ ob.dict = none) ∧ (a == sysModules) = false := by
  obtain ⟨h1, _, _, xs, hx, _⟩ := D.heap I
  refine ⟨hx.typeIs, fun b q => ?_, h1⟩
  cases q
  obtain ⟨ob, _, _, e1, e2, _⟩ := hx
  exact ⟨ob, e1, e2.2.1⟩
section
variable {a : Addr} {es : List (NestedKey × Addr × V)} {n : NestedKey} {y v d : V} {u r : Value} {E : Value → Shared → Prop}
theorem kd_getItem {Q : Value → Shared → Prop} (hu : X.A.units + 65 < cLine) (I : Inv X pins σ H s) (D : KD X.K H a es) (hk : NkT X.K H y n) (ry : RelV y u) (hl : atV es n = some v) (h : ∀ w' s', Inv X pins σ H s' → RelV v w' → Q w' s') :
    wpAny (model X.prog X.w) X.A (getItem (.ref a) u) Q E s := by
  obtain ⟨_, _, _, xs, hx, rx⟩ := D.heap I
  obtain ⟨p, rfl, rfl, his⟩ := hk.is I ry
  rcases KR.at_ (n := n) rx with ⟨z, _⟩ | ⟨v', q, z, e, rv⟩
  · rw [hl] at z; cases z
  · rw [hl] at z; cases z
    exact wpAny_getItem_heap (kroom hu) his hx e (h _ _ (I.tok _) rv)
theorem kd_in {Q : Value → Shared → Prop} (hu : X.A.units + 65 < cLine) (I : Inv X pins σ H s) (D : KD X.K H a es) (hk : NkT X.K H y n) (ry : RelV y u) (h : ∀ s', Inv X pins σ H s' → Q (.bool (atV es n).isSome) s') :
    wpAny (model X.prog X.w) X.A (compareOp .In u (.ref a)) Q E s := by
  obtain ⟨hd, _, _, xs, hx, rx⟩ := D.heap I
  obtain ⟨p, rfl, rfl, his⟩ := hk.is I ry
  refine wpAny_in_heap (kroom hu) his hd hx ?_
  rcases KR.at_ (n := n) rx with ⟨z, e⟩ | ⟨v', q, z, e, rv⟩ <;> (rw [e]; rw [z] at h; exact h _ (I.tok _))
theorem kd_notIn {Q : Value → Shared → Prop} (hu : X.A.units + 65 < cLine) (I : Inv X pins σ H s) (D : KD X.K H a es) (hk : NkT X.K H y n) (ry : RelV y u) (h : ∀ s', Inv X pins σ H s' → Q (.bool (!(atV es n).isSome)) s') :
    wpAny (model X.prog X.w) X.A (compareOp .NotIn u (.ref a)) Q E s := by
  obtain ⟨hd, _, _, xs, hx, rx⟩ := D.heap I
  obtain ⟨p, rfl, rfl, his⟩ := hk.is I ry
  show wpAny _ _ (do return .bool (!(← contains (.ref a) (.ref p)))) Q E s
  refine wpAny_bind (wpAny_contains_heap (kroom hu) his hd hx (wpAny_pure ?_))
  rcases KR.at_ (n := n) rx with ⟨z, e⟩ | ⟨v', q, z, e, rv⟩ <;> (rw [e]; rw [z] at h; exact h _ (I.tok _))
end
def putNE (es : List (NestedKey × Addr × V)) (n : NestedKey) (p : Addr) (v : V) : List (NestedKey × Addr × V) :=
  if (atV es n).isSome then es.map (fun e => if e.1 = n then (e.1, e.2.1, v) else e) else es ++ [(n, p, v)]
theorem KR.put {es : List (NestedKey × Addr × V)} {xs : List (NestedKey × Addr × Value)} {n : NestedKey} {p : Addr} {v : V} {u : Value} (h : Paired KR es xs) (r : RelV v u) : Paired KR (putNE es n p v) (storedH xs n p u) := by
  have mp : Paired KR (es.map (fun e => if e.1 = n then (e.1, e.2.1, v) else e)) (xs.map (putAt n u)) := by
    induction h with
    | nil => exact .nil
    | @cons e x es xs h1 _ ih =>
      refine .cons ?_ ih
      unfold putAt
      show KR (if e.1 = n then (e.1, e.2.1, v) else e) _
      rw [h1.1]
      by_cases q : x.1 = n
      · rw [if_pos q, if_pos q]; exact ⟨rfl, h1.2.1, r⟩
      · rw [if_neg q, if_neg q]; exact h1
  have ap : Paired KR (es ++ [(n, p, v)]) (xs ++ [(n, p, u)]) := by
    clear mp
    induction h with
    | nil => exact .cons ⟨rfl, rfl, r⟩ .nil
    | cons h1 _ ih => exact .cons h1 ih
  unfold putNE
  rcases KR.at_ (n := n) h with ⟨z, e⟩ | ⟨v', q, z, e, rv⟩
  · rw [z, storedH_new e]; exact ap
  · rw [z, storedH_old e]; exact mp
theorem putNE_len (es : List (NestedKey × Addr × V)) (n : NestedKey) (p : Addr) (v : V) : (putNE es n p v).length ≤ es.length + 1 := by
  unfold putNE
  split <;> simp
theorem putNE_mem {es : List (NestedKey × Addr × V)} {n : NestedKey} {p : Addr} {v : V} {e : NestedKey × Addr × V} (h : e ∈ putNE es n p v) : e.1 = n ∨ ∃ e2 ∈ es, e2.1 = e.1 := by
  unfold putNE at h
  split at h
  · obtain ⟨e2, h1, h2⟩ := List.mem_map.mp h
    by_cases q : e2.1 = n
    · rw [if_pos q] at h2; rw [← h2]; exact .inl q
    · rw [if_neg q] at h2; rw [← h2]; exact .inr ⟨e2, h1, rfl⟩
  · rcases List.mem_append.mp h with h | h
    · exact .inr ⟨e, h, rfl⟩
    · rw [List.mem_singleton.mp h]; exact .inl rfl
/-- such a dict stands at a from now on -/
theorem kt_new {P : Program} {w : World} {a : Addr} {es : List (NestedKey × Addr × V)} {xs : List (NestedKey × Addr × Value)} {h' : Heap} (hd : (a == sysModules) = false) (hz : es.length ≤ sizeLine) (hh : ∀ e ∈ es, NestedKey.hash w e.1 = hsN e.1) (r : Paired KR es xs)
    (dd : h'.DictOfH (nestedKind P w) a xs) : ObjOk P w H h' a (ktO a es) := by
  obtain ⟨o, ents, ep, e1, e2, e3, e4, _, nd⟩ := dd
  refine ⟨⟨hd, hz, by rw [← KR.keys r]; exact nd, o, ents, ep, xs, e1, e2, e3, ?_, r⟩, ⟨o, e1⟩, fun h1 h2 ⟨a1, a2, a3, o, ents, ep, xs, b1, b⟩ st => ⟨a1, a2, a3, o, ents, ep, xs, st _ b1, b⟩⟩
  rw [e4]
  refine List.map_congr_left fun x hx => ?_
  obtain ⟨e, he, q⟩ := KR.mem r hx
  show (⟨NestedKey.hash w x.1, .ref x.2.1, x.2.2⟩ : DictEntry) = _
  rw [← q.1, hh e he]
/-- o[i] = v -/
def rSetK (K : PySem.W.Frag) : TSet := fun o i v H Q => ∃ a es n p, o = .ref a ∧ H a = some (ktO a es) ∧ KD K H a es ∧ i = .ref p ∧ NkT K H (.ref p) n ∧ es.length < sizeLine ∧ Q (upd H a (ktO a (putNE es n p v)))
theorem set_kd (hu : X.A.units + 65 < cLine) : PSet X (rSetK X.K) := by
  intro pins s σ H o i v ov iv u Q I ro ri rv h
  obtain ⟨a, es, n, p, rfl, ha, D, rfl, hk, hz, q⟩ := h
  cases (show ov = Value.ref a from ro)
  obtain ⟨hd, _, _, xs, hx, rx⟩ := D.heap I
  obtain ⟨p', e1, e2, his⟩ := hk.is I ri
  cases e2
  subst e1
  refine wpAny_setItem_heap (hsz := by rw [← Paired.length rx]; omega) (kroom hu) his hx fun h' dd hs => ⟨_, ?_, q⟩
  have hl := putNE_len es n p v
  refine I.write (t' := _) (by rw [ha]; exact True.intro) (.inl rfl) (fun b o hb e => by rw [hs.2 b hb]; exact e) (let ⟨o, _, _, e, _⟩ := dd; ⟨o, e⟩) (kt_new hd (by omega) (fun e he => ?_) (KR.put rx rv) dd)
  rcases putNE_mem he with z | ⟨e2, h1, h2⟩
  · rw [z]; obtain ⟨_, _, q, _⟩ := hk; exact NkAt.hash q
  · rw [← h2]; obtain ⟨_, _, q, _⟩ := D.2 e2 h1; exact NkAt.hash q
end
end Y
namespace Y
open PySem L2 PyProof.Rows
def lookN : List Dt → List Dt → NestedKey → Option Dt
  | k :: ks, v :: vs, n => if keyN k = n then some v else lookN ks vs n
  | _, _, _ => none
section
variable {K : PySem.W.Frag} {M : Addr → Prop} {H : Hp}
theorem kd_keys : ∀ {es : List (NestedKey × Addr × V)} {ks : List Dt}, CoL K M H (es.map fun e => .ref e.2.1) ks → ks.all kyT = true → es.map (·.1) = keyNs ks → ∀ e ∈ es, NkT K H (.ref e.2.1) e.1
  | [], _, _, _, _, e, h => nomatch h
  | e0 :: es, [], c, _, _, _, _ => by cases c
  | e0 :: es, k :: ks, c, hk, hn, e, h => by
    simp only [List.map_cons] at c hn
    simp only [keyNs, List.cons.injEq] at hn
    simp only [List.all_cons, Bool.and_eq_true] at hk
    cases c with
    | cons c1 c2 =>
      rcases List.mem_cons.mp h with rfl | h
      · rw [hn.1]; exact c1.nkt hk.1
      · exact kd_keys c2 hk.2 hn.2 e h
theorem Co.kd {v : V} {ks vs : List Dt} (c : Co K M H v (.k ks vs)) : ∃ a es, v = .ref a ∧ KD K H a es ∧ es.map (·.1) = keyNs ks ∧ CoL K M H (es.map fun e => .ref e.2.1) ks ∧ CoL K M H (es.map (·.2.2)) vs ∧ ks.all kyT = true := by
  cases c with
  | @k a es _ _ h1 h2 h3 h4 h5 h6 => exact ⟨a, es, rfl, ⟨h1, kd_keys h3 h4 h5⟩, h5, h3, h6, h4⟩
theorem look_at {n : NestedKey} : ∀ {es : List (NestedKey × Addr × V)} {ks vs : List Dt}, es.map (·.1) = keyNs ks → CoL K M H (es.map (·.2.2)) vs →
    (lookN ks vs n = none ∧ atV es n = none) ∨ ∃ y v, lookN ks vs n = some y ∧ atV es n = some v ∧ Co K M H v y
  | [], [], _, _, c => by cases c; exact .inl ⟨rfl, rfl⟩
  | [], _ :: _, _, h, _ => by simp [keyNs] at h
  | _ :: _, [], _, h, _ => by simp [keyNs] at h
  | e :: es, k :: ks, vs, h, c => by
    simp only [List.map_cons, keyNs, List.cons.injEq] at h
    simp only [List.map_cons] at c
    cases c with
    | @cons _ _ y ys c1 c2 =>
      by_cases q : keyN k = n
      · have q2 : e.1 = n := by rw [h.1]; exact q
        exact .inr ⟨y, e.2.2, by simp [lookN, q], by simp [atV, q2], c1⟩
      · have q2 : ¬ e.1 = n := by rw [h.1]; exact q
        have ih := look_at (n := n) h.2 c2
        simpa [lookN, atV, q, q2] using ih
/-- d[k] -/
def fKIx : List Dt → Option Vl
  | [.k ks vs, x] => if kyT x = true then (lookN ks vs (keyN x)).map fun y => (y, .c) else none
  | _ => none
/-- k in d -/
def fKIn : List Dt → Option Vl
  | [x, .k ks vs] => if kyT x = true then some (.b (lookN ks vs (keyN x)).isSome, .c) else none
  | _ => none
/-- k not in d -/
def fKNin : List Dt → Option Vl
  | [x, .k ks vs] => if kyT x = true then some (.b (!(lookN ks vs (keyN x)).isSome), .c) else none
  | _ => none
def rKIx (K : PySem.W.Frag) : List V → Hp → VK → Prop
  | [x, y], H, Q => ∃ a es n v, x = .ref a ∧ KD K H a es ∧ NkT K H y n ∧ atV es n = some v ∧ Q v H
  | _, _, _ => False
def rKIn (K : PySem.W.Frag) : List V → Hp → VK → Prop
  | [y, x], H, Q => ∃ a es n, x = .ref a ∧ KD K H a es ∧ NkT K H y n ∧ Q (.bl (atV es n).isSome) H
  | _, _, _ => False
def rKNin (K : PySem.W.Frag) : List V → Hp → VK → Prop
  | [y, x], H, Q => ∃ a es n, x = .ref a ∧ KD K H a es ∧ NkT K H y n ∧ Q (.bl (!(atV es n).isSome)) H
  | _, _, _ => False
theorem pr_kIx : Pr K (rKIx K) fKIx := fun M H vs xs x m Q ht c hf k => by
  unfold fKIx at hf
  split at hf
  · rename_i ks ws y
    by_cases hk : kyT y = true
    · rw [if_pos hk] at hf
      obtain ⟨z, hl, e⟩ := Option.map_eq_some_iff.mp hf
      cases e
      obtain ⟨v, w, rfl, c1, c2⟩ := c.two
      obtain ⟨a, es, rfl, D, h1, h2, h3, h4⟩ := c1.kd
      rcases look_at (n := keyN y) h1 h3 with ⟨q, _⟩ | ⟨z', v', q, l, cz⟩
      · rw [hl] at q; cases q
      · rw [hl] at q; cases q
        exact ⟨a, es, _, v', rfl, D, c2.nkt hk, l, k _ _ _ (mk_c ht cz)⟩
    · rw [if_neg hk] at hf; cases hf
  · cases hf
theorem pr_kIn : Pr K (rKIn K) fKIn := fun M H vs xs x m Q ht c hf k => by
  unfold fKIn at hf
  split at hf
  · rename_i y ks ws
    by_cases hk : kyT y = true
    · rw [if_pos hk] at hf
      cases hf
      obtain ⟨v, w, rfl, c1, c2⟩ := c.two
      obtain ⟨a, es, rfl, D, h1, h2, h3, h4⟩ := c2.kd
      refine ⟨a, es, _, rfl, D, c1.nkt hk, ?_⟩
      rcases look_at (n := keyN y) h1 h3 with ⟨q, l⟩ | ⟨z', v', q, l, cz⟩ <;> (rw [l]; rw [q] at k; exact k _ _ _ (mk_c ht (.b _)))
    · rw [if_neg hk] at hf; cases hf
  · cases hf
theorem pr_kNin : Pr K (rKNin K) fKNin := fun M H vs xs x m Q ht c hf k => by
  unfold fKNin at hf
  split at hf
  · rename_i y ks ws
    by_cases hk : kyT y = true
    · rw [if_pos hk] at hf
      cases hf
      obtain ⟨v, w, rfl, c1, c2⟩ := c.two
      obtain ⟨a, es, rfl, D, h1, h2, h3, h4⟩ := c2.kd
      refine ⟨a, es, _, rfl, D, c1.nkt hk, ?_⟩
      rcases look_at (n := keyN y) h1 h3 with ⟨q, l⟩ | ⟨z', v', q, l, cz⟩ <;> (rw [l]; rw [q] at k; exact k _ _ _ (mk_c ht (.b _)))
    · rw [if_neg hk] at hf; cases hf
  · cases hf
end
section
variable {X : Cx} {cl : Str → Addr} {W : WX} {td ty : TE} {o i : Expr} {pos : Pos}
theorem pe_kget (hu : X.A.units + 65 < cLine) (ho : PE X o td) (hi : PE X i ty) (hs : NoSl i) : PE X (.Subscript o i pos) (fun σ H Q => td σ H fun x H1 => ty σ H1 fun y H2 => rKIx X.K [x, y] H2 Q) := by
  refine ⟨fun pins s σ H Q I h => ?_⟩
  refine subD_of PySem.F.slot_dict_getitem.lookup hs (thn (ho.run pins s σ H _ I h) fun u s1 ⟨x, H1, I1, rx, q1⟩ => thn (hi.run pins s1 σ H1 _ I1 q1) fun iv s2 ⟨y, H2, I2, ry, a, es, n, v, ex, D, hk, hl, q2⟩ => ?_)
  subst ex
  obtain rfl : u = Value.ref a := rx
  exact ⟨(D.is I2).1, kd_getItem hu I2 D hk ry hl fun w' s3 I3 rw' => ⟨v, H2, I3, rw', q2⟩⟩
theorem pc_kin (hu : X.A.units + 65 < cLine) (hi : PE X i ty) (ho : PE X o td) : PC X .In i o (fun σ H Q => ty σ H fun y H1 => td σ H1 fun x H2 => rKIn X.K [y, x] H2 Q) := by
  refine ⟨fun pins s σ H Q I h => ?_⟩
  refine thn (hi.run pins s σ H _ I h) fun iv s1 ⟨y, H1, I1, ry, q1⟩ => thn (ho.run pins s1 σ H1 _ I1 q1) fun u s2 ⟨x, H2, I2, rx, a, es, n, ex, D, hk, q2⟩ => ?_
  subst ex
  obtain rfl : u = Value.ref a := rx
  exact kd_in hu I2 D hk ry fun s3 I3 => ⟨.bl (atV es n).isSome, H2, I3, rfl, q2⟩
theorem pc_knotin (hu : X.A.units + 65 < cLine) (hi : PE X i ty) (ho : PE X o td) : PC X .NotIn i o (fun σ H Q => ty σ H fun y H1 => td σ H1 fun x H2 => rKNin X.K [y, x] H2 Q) := by
  refine ⟨fun pins s σ H Q I h => ?_⟩
  refine thn (hi.run pins s σ H _ I h) fun iv s1 ⟨y, H1, I1, ry, q1⟩ => thn (ho.run pins s1 σ H1 _ I1 q1) fun u s2 ⟨x, H2, I2, rx, a, es, n, ex, D, hk, q2⟩ => ?_
  subst ex
  obtain rfl : u = Value.ref a := rx
  exact kd_notIn hu I2 D hk ry fun s3 I3 => ⟨.bl (!(atV es n).isSome), H2, I3, rfl, q2⟩
theorem je_kIx {a b : Expr} {A B : Am} (hu : X.A.units + 65 < cLine) (ha : JO X cl W a A) (hb : JO X cl W b B) (hs : NoSl b) : JE X cl W (.Subscript a b pos) (mP fKIx [A, B]) := fun tk =>
  (pe_kget hu (ha.pe tk) (hb.pe tk) hs).yimp fun σ H Q q => by
    have := mP_ok pr_kIx q
    cases A <;> cases B <;> exact this
theorem jt_kIn {a b : Expr} {A B : Am} (hu : X.A.units + 65 < cLine) (ha : JO X cl W a A) (hb : JO X cl W b B) (h1 : behindInMarks .In b = false := by first | exact nobehind _ (by decide) (by decide) | rfl) : JT X cl W (.Compare a [.In] [b] pos) (mTe (mP fKIn [A, B])) := fun tk =>
  (pt_cmp (pc_kin hu (ha.pe tk) (hb.pe tk)) h1).yimp fun σ H Q q => by
    have := mP_ok pr_kIn (tI_te q)
    cases A <;> cases B <;> exact this
theorem jt_kNin {a b : Expr} {A B : Am} (hu : X.A.units + 65 < cLine) (ha : JO X cl W a A) (hb : JO X cl W b B) (h1 : behindInMarks .NotIn b = false := by first | exact nobehind _ (by decide) (by decide) | rfl) : JT X cl W (.Compare a [.NotIn] [b] pos) (mTe (mP fKNin [A, B])) := fun tk =>
  (pt_cmp (pc_knotin hu (ha.pe tk) (hb.pe tk)) h1).yimp fun σ H Q q => by
    have := mP_ok pr_kNin (tI_te q)
    cases A <;> cases B <;> exact this
end
end Y
namespace Y
open PySem L2 PyProof.Rows
def isKs (i : Nat) (r : Ev) : Bool := match r[i]? with
  | some (some (.k _ _, _)) => true
  | _ => false
def mMk (p : List Dt → Option Vl) (i : Nat) (as : List Am) : Ev → Ou Vl := fun r => if isKs i r then mP p (.v i :: as) r else .no
section
variable {K : PySem.W.Frag} {cl : Str → Addr} {W : WX} {M : Addr → Prop} {H : Hp} {G : Nat → List Addr} {r : Ev} {σ : L2.St}
theorem ER.kd {i : Nat} (e : ER K r σ G M H) (h : isKs i r = true) : ∃ a es, σ[i]? = some (some (.ref a)) ∧ KD K H a es := by
  unfold isKs at h
  split at h
  · rename_i ks vs m hr
    obtain ⟨v, hv, rp⟩ := e.at_ i _ _ hr
    have c : Co K (fun _ => False) H v (.k ks vs) := rp.cold e.hot (fun _ _ z => z) fun _ z => z.elim
    obtain ⟨a, es, rfl, D, _⟩ := c.kd
    exact ⟨a, es, hv, D⟩
  · cases h
/-- d.get(k) -/
def fKGet : List Dt → Option Vl
  | [.k ks vs, x] => if kyT x = true then some ((lookN ks vs (keyN x)).getD .n, .c) else none
  | _ => none
/-- d.get(k, z) -/
def fKGet2 : List Dt → Option Vl
  | [.k ks vs, x, z] => if kyT x = true then some ((lookN ks vs (keyN x)).getD z, .c) else none
  | _ => none
end
end Y
namespace Y
open PySem L2 PyProof.Rows
mutual
theorem ky_flat : ∀ {x : Dt}, kyD x = true → x.flat = true
  | .i _, _ => rfl
  | .t xs, h => kyL_flat (xs := xs) h
theorem kyL_flat : ∀ {xs : List Dt}, kyL xs = true → flatL xs = true
  | [], _ => rfl
  | x :: xs, h => by
    simp only [kyL, Bool.and_eq_true] at h
    simp only [flatL, Bool.and_eq_true]
    exact ⟨ky_flat h.1, kyL_flat h.2⟩
end
theorem kyT_flat {x : Dt} (h : kyT x = true) : x.flat = true := by
  cases x with
  | t xs =>
    simp only [kyT, Bool.and_eq_true] at h
    exact kyL_flat h.1
  | _ => cases h
section
variable {X : Cx} {K : PySem.W.Frag} {cl : Str → Addr} {W : WX} {M : Addr → Prop} {H : Hp} {G : Nat → List Addr} {r : Ev} {σ : L2.St}
theorem mk_k0 (ht : Hotty M H) {p : Addr} (hp : H p = none) : Mk K H M (.ref p) (.k [] []) .a (upd H p (ktO p [])) [p] := by
  refine ⟨same_new hp, fun b z => by rw [List.mem_singleton.mp z]; exact hp, by simp, ?_⟩
  show Ho K _ _ _ _
  exact .k (es := []) upd_same .nil rfl rfl .nil
theorem kt_laid {pins : List (Addr × Obj)} {s : Shared} (I : Inv X pins σ H s) : Inv X pins σ (upd H s.heap.objs.size (ktO s.heap.objs.size [])) { s with heap := s.heap.push { cls := .type "dict", data := .dict #[] } } := by
  have hd : (s.heap.objs.size == sysModules) = false := beq_eq_false_iff_ne.mpr (Ne.symm (Nat.ne_of_lt I.big))
  exact I.laid (a := s.heap.objs.size) (o := ktO s.heap.objs.size []) (t' := s.toks) (fun _ _ q => Heap.get?_push_of_some _ q) (Nat.le_refl _)
    (kt_new (P := X.prog) (w := X.w) (xs := []) hd (Nat.zero_le _) (fun _ z => nomatch z) .nil (Heap.DictOfH.new s.heap))
/-- {} -/
def mKNew : Ev → Ou Vl := fun r => .ok (.k [] [], .a) r
def tKD1 (K : PySem.W.Frag) (tk tv : TE) : TE := fun σ H Q => ∀ p, H p = none → tk σ (upd H p (ktO p [])) fun x H1 => tv σ H1 fun y H2 => ∃ n q, x = .ref q ∧ NkT K H2 x n ∧ H2 p = some (ktO p []) ∧ Q (.ref p) (upd H2 p (ktO p [(n, q, y)]))
theorem pe_kd1 {k v : Expr} {tk tv : TE} {pos : Pos} (hu : X.A.units + 65 < cLine) (hk : PE X k tk) (hv : PE X v tv) : PE X (.Dict [some k] [v] pos) (tKD1 X.K tk tv) := by
  refine ⟨fun pins s σ H Q I h => ?_⟩
  have hn := I.hok.fresh (Nat.le_refl s.heap.objs.size)
  have hroom : (nestedKind X.prog X.w).room X.A := by
    show X.A.units + 8 < cLine
    omega
  have hlen := pairTrees_length [some k] [v] X.env pos rfl rfl
  have hne : pairTrees [some k] [v] X.env pos ≠ [] := fun z => by
    rw [z] at hlen; cases hlen
  rw [arm_eval_Dict, zip_pairTrees [some k] [v] X.env pos rfl rfl, dictDisplay_pairs _ hne (by rw [hlen]; show 1 < 17; decide)]
  refine wpAny_bind (wpAny_standAt (wpAny_bind (wpAny_subDictH (knd := nestedKind X.prog X.w) hroom (by rw [hlen]; show 1 ≤ 15; decide) ?_)))
  refine pairTrees_cons_walk (thn (hk.run pins _ σ _ _ (kt_laid I) (h _ hn)) fun u s1 ⟨x, H1, I1, rx, q1⟩ => thn (hv.run pins s1 σ H1 _ I1 q1) fun w2 s2 ⟨y, H2, I2, ry, n, q, ex, hkt, hp, q2⟩ => pairTrees_nil_walk ?_)
  subst ex
  obtain rfl : u = Value.ref q := rx
  have D : KD X.K H2 s.heap.objs.size [] := ⟨.inl hp, fun _ z => nomatch z⟩
  obtain ⟨hd, _, _, xs, hx, rel⟩ := D.heap I2
  cases rel
  obtain ⟨q', e1, e2, his⟩ := hkt.is I2 (u := .ref q) rfl
  cases e1
  refine ⟨[(n, q, w2)], ⟨rfl, rfl, his, trivial⟩, hx, fun h' tk dd hs => wpAny_pure ⟨.ref s.heap.objs.size, _, ?_, rfl, q2⟩⟩
  obtain ⟨_, _, hka, _⟩ := hkt
  have dd : h'.DictOfH (nestedKind X.prog X.w) s.heap.objs.size [(n, q, w2)] := dd
  exact I2.write (t' := tk) (by rw [hp]; exact True.intro) (.inl rfl) (fun b o hb e => by rw [hs.2 b hb]; exact e) (let ⟨o, _, _, e, _⟩ := dd; ⟨o, e⟩)
    (kt_new hd (by show 1 ≤ sizeLine; rw [sizeLine_eq]; decide) (fun e he => by rw [List.mem_singleton.mp he]; exact NkAt.hash hka) (.cons ⟨rfl, rfl, ry⟩ .nil) dd)
/-- {k: a constant} -/
def mKD1 (f : Ev → Ou Vl) (y : Dt) : Ev → Ou Vl := fun r => match f r with
  | .ok (kd, _) r1 => if kyT kd = true then .ok (.k [kd] [y], .a) r1 else .no
  | _ => .no
theorem ho_kd1 {p q : Addr} {w : V} {kd y : Dt} (hp : H p = some (ktO p [])) (hk : kyT kd = true) (c : Ho K H (.ref q) kd []) (cy : ∀ H, Ho K H w y []) : Ho K (upd H p (ktO p [(keyN kd, q, w)])) (.ref p) (.k [kd] [y]) [p] := by
  refine .k (es := [(keyN kd, q, w)]) upd_same ?_ (by simp [hk]) rfl ?_
  · exact .cons (F := []) (F' := []) (c.upO hp kt_hot fun z => nomatch z) .nil
  · exact .cons (F := []) (F' := []) (cy _) .nil
theorem je_kd1 {k v : Expr} {f : Ev → Ou Vl} {y : Dt} {w : V} {tv : TE} {pos : Pos} (hu : X.A.units + 65 < cLine) (hk : JE X cl W k f) (hv : PE X v tv) (ht : ∀ σ H Q, tv σ H Q = Q w H) (cy : ∀ H, Ho X.K H w y []) (hy : y.flat = true) : JE X cl W (.Dict [some k] [v] pos) (mKD1 f y) := fun tk =>
  (pe_kd1 hu (hk tk) hv).yimp fun σ H Q ⟨r, M, G, e, h⟩ p hn => by
    have mk : Mk X.K H M (.ref p) (.k [] []) .a (upd H p (ktO p [])) [p] := mk_k0 e.hot hn
    obtain ⟨e', v', nM⟩ := mk.env e
    refine ⟨r, _, G, e', ?_⟩
    simp only [mKD1] at h
    cases hf : f r with
    | no => rw [hf] at h; exact h
    | ex c fs r1 => rw [hf] at h; exact h.elim
    | ok km r1 =>
      obtain ⟨kd, m⟩ := km
      rw [hf] at h
      simp only at h
      by_cases hkt : kyT kd = true
      · rw [if_pos hkt] at h
        intro u H1 M1 G1 F1 px
        have pG : ∀ i, p ∉ G i := fun i hi => nM p (by simp) (e.sub i p hi)
        have hp1 : H1 p = some (ktO p []) := px.ev.pres p _ upd_same pG (fun _ z => by unfold ktO at z; cases z)
        have hM1 : M1 p := px.ev.keep p (.inr (by simp)) pG
        have hG1 : ∀ i, p ∉ G1 i := fun i hi => by
          rcases px.ev.env i p hi with ⟨j, z⟩ | z
          · exact pG j z
          · rw [upd_same] at z; cases z
        have ho := rp_flat px.rp (kyT_flat hkt)
        have hc : Co X.K M1 H1 u kd := ho.cold fun _ z => nomatch z
        have hkn := hc.nkt hkt
        obtain ⟨q, rfl, _, _⟩ := id hkn
        rw [ht]
        refine ⟨keyN kd, q, rfl, hkn, hp1, h _ _ M1 G1 [p] ⟨?_, ?_, ho_kd1 hp1 hkt ho cy, by simp, fun b hb => by rw [List.mem_singleton.mp hb]; exact ⟨hM1, hG1⟩⟩⟩
        · refine px.er.evoF (fun b o hb hq => ?_) (fun b z => .inl z) (fun i b hb => px.er.sub i b hb) (hot_upO px.er.hot kt_hot)
          rw [upd_ne]
          · exact hb
          · rintro rfl
            rcases hq with z | ⟨i, z⟩
            · exact z hM1
            · exact hG1 i z
        · have ne : ∀ b o, H b = some o → b ≠ p := fun b o hb z => by rw [z, hn] at hb; cases hb
          have nn : ∀ b, upd H p (ktO p []) b = none → H b = none := fun b hb => by
            by_cases z : b = p
            · rw [z, upd_same] at hb; cases hb
            · rw [upd_ne z] at hb; exact hb
          refine ⟨fun b o hb hi {nt} => ?_, fun b hb => ?_, fun b hb => ?_, fun b hb hi => ?_, fun i b hb => ?_, fun b hb => ?_⟩
          · rw [upd_ne (ne b o hb)]
            exact px.ev.pres b o (by rw [upd_ne (ne b o hb)]; exact hb) hi (nt := nt)
          · by_cases z : b = p
            · rw [z, upd_same] at hb; cases hb
            · rw [upd_ne z] at hb; exact nn b (px.ev.dom b hb)
          · rcases px.ev.grow b hb with (z | z) | z
            · exact .inl z
            · rw [List.mem_singleton.mp z]; exact .inr hn
            · exact .inr (nn b z)
          · exact px.ev.keep b (.inl hb) hi
          · exact (px.ev.env i b hb).imp id (nn b)
          · rw [List.mem_singleton.mp hb]; exact .inr hn
      · rw [if_neg hkt] at h; exact h.elim
end
end Y
namespace Y
open PySem L2 PyProof.Rows
def hasN (ks : List Dt) (kd : Dt) : Bool := ks.any fun k => decide (keyN k = keyN kd)
def putN (ks vs : List Dt) (kd y : Dt) : List Dt × List Dt :=
  if hasN ks kd = true then (ks, List.zipWith (fun k v => if keyN k = keyN kd then y else v) ks vs) else (ks ++ [kd], vs ++ [y])
theorem keyNs_map : ∀ ks : List Dt, keyNs ks = ks.map keyN
  | [] => rfl
  | k :: ks => by rw [keyNs, keyNs_map ks]; rfl
section
variable {K : PySem.W.Frag} {cl : Str → Addr} {W : WX} {io : Bool} {M : Addr → Prop} {H : Hp} {G : Nat → List Addr} {r : Ev} {σ : L2.St}
theorem has_at {kd : Dt} : ∀ {es : List (NestedKey × Addr × V)} {ks : List Dt}, es.map (·.1) = keyNs ks → (atV es (keyN kd)).isSome = hasN ks kd
  | [], [], _ => rfl
  | [], _ :: _, h => by simp [keyNs] at h
  | _ :: _, [], h => by simp [keyNs] at h
  | e :: es, k :: ks, h => by
    simp only [List.map_cons, keyNs, List.cons.injEq] at h
    have ih := has_at (kd := kd) h.2
    unfold hasN at ih ⊢
    rw [List.any_cons, ← ih]
    by_cases q : keyN k = keyN kd
    · have q2 : e.1 = keyN kd := h.1.trans q
      simp [atV, q, q2]
    · have q2 : ¬ e.1 = keyN kd := fun z => q (h.1.symm.trans z)
      simp [atV, q, q2]
theorem ho_repN {n : NestedKey} {w : V} {y : Dt} (hy : Ho K H w y []) : ∀ {es : List (NestedKey × Addr × V)} {ks vs : List Dt} {F : List Addr}, es.map (·.1) = keyNs ks → HoL K H (es.map (·.2.2)) vs F →
    ∃ F', HoL K H ((es.map fun e => if e.1 = n then (e.1, e.2.1, w) else e).map (·.2.2)) (List.zipWith (fun k v => if keyN k = n then y else v) ks vs) F' ∧ (∀ b ∈ F', b ∈ F) ∧ (F.Nodup → F'.Nodup)
  | [], [], _, _, _, h => by
    cases h
    exact ⟨[], .nil, fun _ z => z, fun z => z⟩
  | [], _ :: _, _, _, h, _ => by simp [keyNs] at h
  | _ :: _, [], _, _, h, _ => by simp [keyNs] at h
  | e :: es, k :: ks, _, _, h, c => by
    simp only [List.map_cons, keyNs, List.cons.injEq] at h
    cases c with
    | @cons _ _ x xs F1 F2 h1 h2 =>
      obtain ⟨F', a1, a2, a3⟩ := ho_repN (n := n) hy h.2 h2
      simp only [List.map_cons, List.zipWith_cons_cons]
      by_cases q : keyN k = n
      · have q2 : e.1 = n := h.1.trans q
        simp only [q, q2, if_true]
        exact ⟨[] ++ F', .cons hy a1, fun b hb => List.mem_append_right _ (a2 b hb), fun m => a3 (List.nodup_append.mp m).2.1⟩
      · have q2 : ¬ e.1 = n := fun z => q (h.1.symm.trans z)
        simp only [if_neg q, if_neg q2]
        refine ⟨F1 ++ F', .cons h1 a1, fun b hb => ?_, fun m => ?_⟩
        · exact (List.mem_append.mp hb).elim (List.mem_append_left _) fun z => List.mem_append_right _ (a2 b z)
        · obtain ⟨n1, n2, n3⟩ := List.nodup_append.mp m
          exact List.nodup_append.mpr ⟨n1, a3 n2, fun x hx z hz q => n3 x hx z (a2 z hz) q⟩
theorem ho_putN {kd y : Dt} {q : Addr} {w : V} (hk : kyT kd = true) (cq : Ho K H (.ref q) kd []) (hy : Ho K H w y []) {es : List (NestedKey × Addr × V)} {ks vs : List Dt} {F : List Addr} (h1 : HoL K H (es.map fun e => .ref e.2.1) ks []) (h2 : ks.all kyT = true) (h3 : es.map (·.1) = keyNs ks)
    (h4 : HoL K H (es.map (·.2.2)) vs F) : ∃ F', HoL K H ((putNE es (keyN kd) q w).map fun e => .ref e.2.1) (putN ks vs kd y).1 [] ∧ (putN ks vs kd y).1.all kyT = true ∧ (putNE es (keyN kd) q w).map (·.1) = keyNs (putN ks vs kd y).1 ∧
      HoL K H ((putNE es (keyN kd) q w).map (·.2.2)) (putN ks vs kd y).2 F' ∧ (∀ b ∈ F', b ∈ F) ∧ (F.Nodup → F'.Nodup) := by
  unfold putNE putN
  rw [has_at h3]
  by_cases c : hasN ks kd = true
  · simp only [if_pos c]
    obtain ⟨F', a1, a2, a3⟩ := ho_repN (n := keyN kd) hy h3 h4
    refine ⟨F', ?_, h2, ?_, a1, a2, a3⟩
    · rw [List.map_map]
      rw [show ((fun e : NestedKey × Addr × V => V.ref e.2.1) ∘ fun e => if e.1 = keyN kd then (e.1, e.2.1, w) else e) = fun e => V.ref e.2.1 by funext e; by_cases z : e.1 = keyN kd <;> simp [z]]
      exact h1
    · rw [List.map_map, ← h3]
      refine List.map_congr_left fun e _ => ?_
      by_cases z : e.1 = keyN kd <;> simp [z]
  · simp only [if_neg c]
    refine ⟨F ++ [], ?_, by simp [h2, hk], ?_, ?_, by simp, by simp⟩
    · have := h1.snoc cq
      simpa using this
    · rw [List.map_append, h3, keyNs_map, keyNs_map]; simp
    · simpa using h4.snoc hy
def isK (i : Nat) (r : Ev) : Bool := match r[i]? with
  | some (some (.k _ _, .a)) => true
  | _ => false
/-- name[e] = v, the name's own dict, keyed by tuples; v flat -/
def tgK (i : Nat) (f : Ev → Ou Vl) : Vl → Ev → Option Ev := fun y r => if isK i r then
    match f r with
    | .ok (kd, _) r1 => match r1[i]? with
      | some (some (.k ks vs, .a)) => if kyT kd = true ∧ y.1.flat = true ∧ ks.length < LIM then some (r1.set i (some (.k (putN ks vs kd y.1).1 (putN ks vs kd y.1).2, .a))) else none
      | _ => none
    | _ => none
  else none
theorem ER.isK' {i : Nat} (e : ER K r σ G M H) (h : Y.isK i r = true) : ∃ a es, σ[i]? = some (some (.ref a)) ∧ H a = some (ktO a es) := by
  unfold Y.isK at h
  split at h
  · rename_i ks vs hr
    obtain ⟨v, hv, rp⟩ := e.at_ i _ _ hr
    have rp : Ho K H v (.k ks vs) (G i) := rp
    generalize G i = Gi at rp
    cases rp with
    | k h _ => exact ⟨_, _, hv, h⟩
  · cases h
theorem tg_kix {i : Nat} {f : Ev → Ou Vl} : TgOk K io (gSub (tVar i) (tI K cl W f) (rSetK K)) (tgK i f) := fun r σ G M H v x m F r' Q e rp nd hot ht k => by
  unfold tgK at ht
  split at ht
  · rename_i hL
    obtain ⟨a0, es0, hv0, hh0⟩ := e.isK' hL
    refine ⟨.ref a0, hv0, r, M, G, e, ?_⟩
    cases hf : f r with
    | no => rw [hf] at ht; cases ht
    | ex c fs r1 => rw [hf] at ht; cases ht
    | ok km r1 =>
      obtain ⟨kd, mk⟩ := km
      rw [hf] at ht
      simp only at ht
      intro u H1 M1 G1 F1 p
      split at ht
      · rename_i ks vs hr
        split at ht
        · rename_i hc
          cases ht
          have hq := rp_flat p.rp (kyT_flat hc.1)
          have hqc : Co K M1 H1 u kd := hq.cold fun _ z => nomatch z
          have hkn := hqc.nkt hc.1
          obtain ⟨q, rfl, _, _⟩ := id hkn
          obtain ⟨rp1, hot1, _⟩ := rp.evo hot e p.ev
          have hy := rp_flat rp1 hc.2.1
          obtain ⟨v', hv', rpx⟩ := p.er.at_ i _ _ hr
          rw [hv0] at hv'; cases hv'
          have rpx : Ho K H1 (.ref a0) (.k ks vs) (G1 i) := rpx
          have rpc : Co K (fun _ => False) H1 (.ref a0) (.k ks vs) := rpx.cold fun _ _ z => z
          have nG := p.er.nd i
          generalize hG : G1 i = Gi at rpx nG
          cases rpx with
          | @k _ es _ _ F2 h3 h4 h5 h6 h7 =>
            have aG : a0 ∈ G1 i := by rw [hG]; exact List.mem_cons_self
            obtain ⟨n1, n2⟩ := List.nodup_cons.mp nG
            obtain ⟨F', b1, b2, b3, b4, s2, nd2⟩ := ho_putN hc.1 hq hy h4 h5 h6 h7
            have aF' : a0 ∉ F' := fun z => n1 (s2 _ z)
            have D : KD K H1 a0 es := ⟨.inl h3, kd_keys (M := fun _ => False) (h4.cold fun _ z => nomatch z) h5 h6⟩
            have lk : es.length < sizeLine := by
              have l1 := congrArg List.length h6
              rw [keyNs_map, List.length_map, List.length_map] at l1
              rw [l1]
              exact lim_lt hc.2.2
            have ho : Ho K (upd H1 a0 (ktO a0 (putNE es (keyN kd) q v))) (.ref a0) (.k (putN ks vs kd x).1 (putN ks vs kd x).2) (a0 :: F') := .k upd_same (b1.upO h3 kt_hot fun z => nomatch z) b2 b3 (b4.upO h3 kt_hot aF')
            have na : ∀ b o, H b = some o → (∀ j, b ∉ G j) → b ≠ a0 := fun b o h hb q => by
              rcases p.ev.env i a0 aG with ⟨j, z⟩ | z
              · exact hb j (by rw [q]; exact z)
              · rw [q, z] at h; cases h
            refine ⟨a0, es, keyN kd, q, rfl, h3, D, rfl, hkn, lk, k σ _ M1 _ (hot_go p.er hv0 aG kt_hot ho (List.nodup_cons.mpr ⟨aF', nd2 n2⟩) (fun b hb => .inl ?_) hot1) (fun b o h hb _ {nt} => by rw [upd_ne (na b o h hb)]; exact p.ev.pres b o h hb (nt := nt)) (fun b h => ?_) (fun b z => p.ev.grow b z) (fun b h hb hf => p.ev.keep b h hb) (fun l b hb => ?_) fun _ => rfl⟩
            · rw [hG]
              rcases List.mem_cons.mp hb with q | hb
              · rw [q]; exact List.mem_cons_self
              · exact List.mem_cons_of_mem _ (s2 b hb)
            · by_cases q : b = a0
              · rw [q, upd_same] at h; cases h
              · rw [upd_ne q] at h; exact p.ev.dom b h
            · by_cases q : l = i
              · simp only [if_pos q] at hb
                refine (p.ev.env i b ?_).imp id .inr
                rw [hG]
                rcases List.mem_cons.mp hb with q | hb
                · rw [q]; exact List.mem_cons_self
                · exact List.mem_cons_of_mem _ (s2 b hb)
              · simp only [if_neg q] at hb
                exact (p.ev.env l b hb).imp id .inr
        · cases ht
      · cases ht
  · cases ht
end
section
variable {X : Cx} {cl : Str → Addr} {W : WX} {io : Bool}
theorem pg_kixK {o ix : Expr} {fi : Ev → Ou Vl} {sp : Pos} {i : Nat} (hu : X.A.units + 65 < cLine) (ho : PE X o (tVar i)) (hi : JE X cl W ix fi)
    (hset : ∀ v, assign (.Subscript o ix sp) X.env v = (do
      let ov ← holding [v] (eval o X.env); let iv ← holding [v, ov] (eval ix X.env)
      standAt sp
      holding [v, ov, iv] (setItem ov iv v); release [v, ov, iv] []) := by intro _; rfl) (tk : Takes X W) : PG X (.Subscript o ix sp) (gSub (tVar i) (tI X.K cl W fi) (rSetK X.K)) := pg_sub ho (hi tk) (set_kd hu) hset
end
end Y
namespace Y
open PySem L2 PyProof.Rows
def fLenK : List Dt → Option Vl
  | [.k ks _] => if ks.length ≤ LIM then some (.i ks.length, .c) else none
  | _ => none
end Y
namespace Y
open PySem L2 PyProof.Rows
/-- name.setdefault(k, y) on its own -/
def setdN (ks vs : List Dt) (kd y : Dt) : List Dt × List Dt := if hasN ks kd = true then (ks, vs) else putN ks vs kd y
section
variable {X : Cx} {cl : Str → Addr} {W : WX} {io : Bool} {td ty tz : TE} {o e f : Expr} {apos cpos : Pos}
/-- name[i].setdefault(f, name[j]): statement -/
def sSetD (i j : Nat) (f : Ev → Ou Vl) : Ev → So := fun r => if isK i r then sWith f (fun kd r1 => match r1[i]?, r1[j]? with
    | some (some (.k ks vs, .a)), some (some (y, _)) => if kyT kd.1 = true ∧ y.flat = true ∧ ks.length < LIM then .nx (r1.set i (some (.k (setdN ks vs kd.1 y).1 (setdN ks vs kd.1 y).2, .a))) else .no
    | _, _ => .no) r else .no
end
end Y
namespace Y
open PySem L2 PyProof.Rows
section
variable {K : PySem.W.Frag} {cl : Str → Addr} {W : WX} {M M' : Addr → Prop} {H H' : Hp} {G : Nat → List Addr} {r r' : Ev} {σ : L2.St} {a : Addr} {es : List (NestedKey × Addr × V)} {od : Obj}
abbrev lkH (H : Hp) (a : Addr) (od : Obj) (es : List (NestedKey × Addr × V)) : Hp := upd H a (.frz od (ktO a es))
theorem rd_lk (ha : H a = some (ktO a es)) {b : Addr} {u : HO} (h : Rd H b u) : Rd (lkH H a od es) b u := by
  by_cases q : b = a
  · subst q
    rcases h with h | ⟨o', h⟩
    · rw [ha] at h; cases h; exact .inr ⟨od, upd_same⟩
    · rw [ha] at h; unfold ktO at h; cases h
  · rcases h with h | ⟨o', h⟩
    · exact .inl ((upd_ne q).trans h)
    · exact .inr ⟨o', (upd_ne q).trans h⟩
theorem lk_of (ha : H a = some (ktO a es)) {b : Addr} {u : HO} (h : H b = some u) (hu : ∀ es, u ≠ ktO a es) : lkH H a od es b = some u := by
  have q : b ≠ a := fun q => by
    rw [q, ha] at h
    cases h
    exact hu _ rfl
  exact (upd_ne q).trans h
theorem exk_nk {b C : Addr} {d : Option Addr} (es : List (NestedKey × Addr × V)) : exk b C d ≠ ktO a es := fun q => exk_nh (by rw [q]; exact kt_hot)
mutual
theorem Co.lk (ha : H a = some (ktO a es)) : ∀ {v : V} {x : Dt}, Co K M H v x → Co K M (lkH H a od es) v x
  | _, _, .n => .n
  | _, _, .f h => .f h
  | _, _, .b x => .b x
  | _, _, .i x => .i x
  | _, _, .s x => .s x
  | _, _, .t h q => .t (h.elim (fun h => .inl (rd_lk ha h)) .inr) (CoL.lk ha q)
  | _, _, .l h hn q => .l (lk_of ha h fun _ z => by unfold ktO at z; cases z) hn (CoL.lk ha q)
  | _, _, .z h q => .z (h.elim (fun ⟨o, h⟩ => .inl ⟨o, lk_of ha h fun _ z => by unfold ktO at z; cases z⟩) .inr) (CoL.lk ha q)
  | _, _, .m h hn q => .m (rd_lk ha h) hn (CoL.lk ha q)
  | _, _, .o h hn c q => .o (lk_of ha h fun _ z => by unfold ktO at z; cases z) hn c (CoL.lk ha q)
  | _, _, .k h hn c1 e1 e2 q => .k (rd_lk ha h) hn (CoL.lk ha c1) e1 e2 (CoL.lk ha q)
  | _, _, .x0 h c => .x0 (lk_of ha h exk_nk) c
  | _, _, .x1 h c d q => .x1 (lk_of ha h exk_nk) c (lk_of ha d fun _ z => by unfold ktO at z; cases z) (Co.lk ha q)
theorem CoL.lk (ha : H a = some (ktO a es)) : ∀ {vs : List V} {xs : List Dt}, CoL K M H vs xs → CoL K M (lkH H a od es) vs xs
  | _, _, .nil => .nil
  | _, _, .cons h q => .cons (Co.lk ha h) (CoL.lk ha q)
end
theorem ER.lk (e : ER K r σ G M H) (ha : H a = some (ktO a es)) (nG : ∀ i, a ∉ G i) (nM : ¬ M a) : ER K r σ G M (lkH H a od es) := by
  have ne : ∀ b, b ≠ a → lkH H a od es b = H b := fun b q => upd_ne q
  refine ⟨e.len, fun i x m h => ?_, e.emp, e.nd, e.dj, e.sub, fun b hb => ?_, e.tab.cold fun b o h hn => ?_⟩
  · obtain ⟨v, h1, h2⟩ := e.at_ i x m h
    refine ⟨v, h1, ?_⟩
    have st : ∀ b ∈ G i, lkH H a od es b = H b := fun b hb => ne b fun q => nG i (by rw [← q]; exact hb)
    cases m with
    | c => exact ⟨h2.1.lk ha, h2.2⟩
    | t =>
      obtain ⟨b, vs, xs, rfl, rfl, eG, q, c⟩ := h2
      exact ⟨b, vs, xs, rfl, rfl, eG, (st b (by rw [eG]; simp)).trans q, c.lk ha⟩
    | a => exact Ho.stay (fun b xs z => rd_lk ha z) (fun b o u z => lk_of ha z fun _ z => by unfold ktO at z; cases z) h2 st
  · obtain ⟨o, h1, h2⟩ := e.hot b hb
    exact ⟨o, (ne b fun q => nM (by rw [← q]; exact hb)).trans h1, h2⟩
  · exact (ne b fun q => hn (by rw [q, ha] at h; cases h; exact kt_hot)).trans h
/-- the keys of the locked dict at a -/
def ItkN (a : Addr) (o : Obj) (es : List (NestedKey × Addr × V)) : It :=
  ⟨fun i H => H a = some (.frz o (ktO a es)) ∧ i < es.length, fun i H x H' => H' = H ∧ ∃ e, es[i]? = some e ∧ x = .ref e.2.1, fun i H => H a = some (.frz o (ktO a es)) ∧ es.length ≤ i⟩
theorem src_keysN {ks : List Dt} (h : H a = some (.frz od (ktO a es))) (hn : ¬ M a) (c : CoL K M H (es.map fun e => .ref e.2.1) ks) : SrcOk K (ItkN a od es) M H ks := by
  have l := c.len
  rw [List.length_map] at l
  refine ⟨fun i M1 H1 hi f => ⟨f.keep _ _ h hn, by omega⟩, fun M1 H1 f => ⟨f.keep _ _ h hn, by omega⟩, fun i x v M1 H1 H2 hx f ht y => ?_⟩
  obtain ⟨rfl, e, he, rfl⟩ := y
  exact ⟨fun _ _ h => h, (c.fm f).at' hx (by rw [List.getElem?_map, he]; rfl)⟩
def kvD (ks vs : List Dt) : List Dt := List.zipWith (fun k v => .t [k, v]) ks vs
end
section
variable {X : Cx} {pins : List (Addr × Obj)} {σ : L2.St} {H : Hp} {s : Shared} {a : Addr} {o : Obj} {es : List (NestedKey × Addr × V)}
theorem Inv.frzN (I : Inv X pins σ H s) (h : H a = some (.frz o (ktO a es))) :
    (a == sysModules) = false ∧ s.heap.get? a = some o ∧ o.ExactDict ∧ ∃ (ents : Array DictEntry) (ep : Nat), o.data = .dict ents ep ∧ ents.size = es.length ∧
      ∀ (i : Nat) (e : NestedKey × Addr × V), es[i]? = some e → ∃ en : DictEntry, ents[i]? = some en ∧ en.key = .ref e.2.1 ∧ RelV e.2.2 en.val := by
  obtain ⟨hd, ⟨h1, h2, h3, o', ents, ep, xs, e1, e2, e3, e4, e5⟩, _⟩ := I.hok a _ h
  rw [hd] at e1
  cases e1
  have l1 : ents.size = xs.length := by
    have := congrArg List.length e4
    simpa using this
  have l2 : es.length = xs.length := Paired.length e5
  refine ⟨h1, hd, e2, ents, ep, e3, by omega, fun i e he => ?_⟩
  obtain ⟨x, hx, r1, r2, r3⟩ := L2.paired_get e5 he
  have q : ents.toList[i]? = some (⟨hsN x.1, .ref x.2.1, x.2.2⟩ : DictEntry) := by rw [e4, List.getElem?_map, hx]; rfl
  exact ⟨_, by rw [← Array.getElem?_toList]; exact q, by rw [r2], r3⟩
variable {P : Program} {w : World} {K : PySem.W.Frag} {tg : Expr} {ents : Array DictEntry} {ep : Nat}
theorem turn_keysN (it : Addr) (hod : o.data = .dict ents ep) : Turn P w K tg (ItkN a o es) [it] it (fun i h => h.IsKeyIter it a i es.length ep) where
  mem := by simp
  obj := fun i h st b hb => by
    have e : b = it := by simpa using hb
    subst e
    obtain ⟨oi, e, c, dd⟩ := st
    exact ⟨oi, e, fun v z => by rw [dd] at z; cases z⟩
  keep := fun i h h' st k => st.at fun oi e => k it (by simp) oi e
  item := by
    intro X hP hw hK hc i pins s σ H E I hf st hg
    subst hP hw hK
    obtain ⟨hd, hi⟩ := hg
    obtain ⟨f0, f1, f2, f3, f4, f5⟩ := hf it (by simp)
    obtain ⟨hs, hgd, hx, es', ep', hdt, hsz, ent⟩ := Inv.frzN I hd
    obtain ⟨rfl, rfl⟩ := L2.dict_ep hod hdt
    obtain ⟨e, he⟩ : ∃ p, es[i]? = some p := ⟨es[i], List.getElem?_eq_getElem hi⟩
    obtain ⟨en, hen, hkey, _⟩ := ent i e he
    refine L2.next_key_item st hgd hdt hsz hen fun h' st' sb => ?_
    have I1 : Inv X pins σ H { s with heap := h' } := I.turned (t' := s.toks) (fun b ob hb e => (sb.2 b hb).trans e) f0 f1 f3 f4 f5
    obtain ⟨oi, e', c, dd⟩ := id st'
    exact ⟨en.key, rfl, go_of (s := { s with heap := h' }) e' c dd (by decide) ⟨.ref e.2.1, H, I1, hkey, ⟨rfl, e, he, rfl⟩, st', fun b hb => (hf b hb).1⟩⟩
  done := by
    intro X hP hw hK hc i pins s σ H E I hf st hg
    subst hP hw hK
    obtain ⟨hd, hi⟩ := hg
    obtain ⟨f0, f1, f2, f3, f4, f5⟩ := hf it (by simp)
    obtain ⟨hs, hgd, hx, es', ep', hdt, hsz, ent⟩ := Inv.frzN I hd
    obtain ⟨rfl, rfl⟩ := L2.dict_ep hod hdt
    exact L2.next_key_end (I.ok.hd hc) st hgd hdt hsz hi fun h' eb => ⟨rfl, I.turned (t' := s.toks) (fun b ob hb e => eb b ob hb e) f0 f1 f3 f4 f5⟩
  self := fun A i s Q E st h => wpAny_pyIter_keyiter st h
end
def iKeysN (td : TE) : TI := fun σ H R => td σ H fun x H1 => ∃ d es, x = .ref d ∧ H1 d = some (ktO d es) ∧ ∀ od, R (ItkN d od es) (lkH H1 d od es)
section
variable {X : Cx} {tg e : Expr} {td : TE} {apos cpos : Pos}
theorem pi_keysN (he : PE X e td) : PI X tg e (iKeysN td) := by
  refine ⟨fun pins s σ H R I h => ?_⟩
  refine thn (he.run pins s σ H _ I h) fun u s1 ⟨x, H1, I1, rx, d, es, ex, hd, q⟩ => ?_
  subst ex
  obtain rfl : u = Value.ref d := rx
  obtain ⟨od, I2⟩ := I1.lock hd True.intro
  obtain ⟨hs, hgd, hx, ents, ep, hdt, hsz, ent⟩ := Inv.frzN (H := lkH H1 d od es) I2 upd_same
  refine L2.iter_keys hs hgd hx hdt (pi_one (tk := s1.toks) I2 _ (turn_keysN _ hdt) ⟨_, Heap.get?_push_size _ rfl, rfl, ?_⟩ (q od))
  rw [hsz] <;> rfl
end
section
variable {X : Cx} {K : PySem.W.Frag} {cl : Str → Addr} {W : WX} {M M' : Addr → Prop} {H H' : Hp} {G G' : Nat → List Addr} {r r' : Ev} {σ : L2.St}
/-- for k in name (its own dict; given up) -/
def sKeys (i : Nat) : Ev → Ou (List Dt) := fun r => match r[i]? with
  | some (some (.k ks vs, .a)) => .ok ks (r.set i (some (.k ks vs, .c)))
  | _ => .no
/-- for k, v in name.items() -/
def sItems (i : Nat) : Ev → Ou (List Dt) := fun r => match r[i]? with
  | some (some (.k ks vs, .a)) => .ok (kvD ks vs) (r.set i (some (.k ks vs, .c)))
  | _ => .no
/-- for k, v in (an expression that hands back its own dict).items() -/
def sItemsE (f : Ev → Ou Vl) : Ev → Ou (List Dt) := fun r => match f r with
  | .ok (.k ks vs, .a) r1 => .ok (kvD ks vs) r1
  | .ex c fs r1 => .ex c fs r1
  | _ => .no
theorem lk_slot {i : Nat} {ks vs : List Dt} (e : ER K r σ G M H) (hr : r[i]? = some (some (.k ks vs, .a))) :
    ∃ a es, σ[i]? = some (some (.ref a)) ∧ H a = some (ktO a es) ∧ ∀ od, ∃ G' M', ER K (r.set i (some (.k ks vs, .c))) σ G' M' (lkH H a od es) ∧ Evo H M G (lkH H a od es) M' G' [] ∧ ¬ M' a ∧ CoL K M' (lkH H a od es) (es.map fun e => .ref e.2.1) ks ∧ CoL K M' (lkH H a od es) (es.map (·.2.2)) vs := by
  obtain ⟨v, hv, rp⟩ := e.at_ i _ _ hr
  have rp : Ho K H v (.k ks vs) (G i) := rp
  have e2 := e.give hr
  generalize hG : G i = Gi at rp e2
  cases rp with
  | @k a es _ _ F h c1 h2 h3 c2 =>
    have aG : a ∈ G i := by rw [hG]; exact List.mem_cons_self
    have nG : ∀ j, a ∉ (if j = i then ([] : List Addr) else G j) := fun j hj => by
      by_cases q : j = i
      · simp [q] at hj
      · simp only [if_neg q] at hj
        exact e.dj j i q a hj aG
    have nM : ¬ (M a ∧ a ∉ a :: F) := fun z => z.2 List.mem_cons_self
    refine ⟨a, es, hv, h, fun od => ⟨_, _, e2.lk h nG nM, ⟨fun b o hb hq {nt} => ?_, fun b hb => ?_, fun b z => .inl z.1, fun b hb hq => ⟨hb, fun z => hq i (by rw [hG]; exact z)⟩, fun j b hb => ?_, fun _ z => nomatch z⟩, nM, ?_, ?_⟩⟩
    · exact (upd_ne fun q => hq i (by rw [q]; exact aG)).trans hb
    · by_cases q : b = a
      · rw [q] at hb; unfold lkH at hb; rw [upd_same] at hb; cases hb
      · unfold lkH at hb; rw [upd_ne q] at hb; exact hb
    · by_cases q : j = i
      · simp [q] at hb
      · simp only [if_neg q] at hb; exact .inl ⟨j, hb⟩
    · exact CoL.lk h (c1.cold fun _ z => nomatch z)
    · exact CoL.lk h (c2.cold fun b hb z => z.2 (List.mem_cons_of_mem _ hb))
theorem ji_keysN {tg e : Expr} {i : Nat} (he : PE X e (tVar i)) : JI X cl W tg e (sKeys i) := fun tk => (pi_keysN he).yimp fun σ H R q => by
  obtain ⟨r, M, G, e, h⟩ := q
  unfold sKeys at h
  split at h
  · rename_i ds r' heq
    split at heq
    · rename_i ks vs hr
      cases heq
      obtain ⟨a, es, hv, ha, k⟩ := lk_slot e hr
      refine ⟨.ref a, hv, a, es, rfl, ha, fun od => ?_⟩
      obtain ⟨G', M', e', v', nM, c1, c2⟩ := k od
      exact h _ _ M' G' e' v' (src_keysN upd_same nM c1)
    · cases heq
  · rename_i heq
    split at heq <;> cases heq
  · exact h.elim
/-- for k in (an expression that hands back its own dict) -/
def sKeysE (f : Ev → Ou Vl) : Ev → Ou (List Dt) := fun r => match f r with
  | .ok (.k ks vs, .a) r1 => .ok ks r1
  | .ex c fs r1 => .ex c fs r1
  | _ => .no
end
end Y
namespace Y
open PySem L2 PyProof.Rows PySem.W PySem.Calls
section
variable {prog : Program} {w : World} {A : Around} {E : Value → Shared → Prop} {s : Shared}
/-- sorted(x), whatever is gathered out of x -/
theorem sorted_of {β : Type} {enc : β → PyData} {R : Value → β → Prop} {l : Addr} {P : List Value → Shared → Prop} {Q : Value → Shared → Prop} (hcol : ∀ {E' : Value → Shared → Prop}, wpAny (model prog w) A.in1 (collect (.ref l)) P E' s)
    (h : ∀ vs s1, P vs s1 → ∃ bs : List β, EachIs R vs bs ∧ EachIs (fun v b => ∃ as, Reads s1.heap v (enc b) as) vs bs ∧ AllAlike (bs.map enc) ∧ Sortable (bs.map enc) ∧ bs.length ≤ sizeLine ∧ (∀ b, b ∈ bs → A.units + 2 + (enc b).depth < cLine) ∧
      ∀ h' out, (∀ b u, s1.heap.get? b = some u → h'.get? b = some u) → out.length = bs.length → EachIs R out (bs.mergeSort (dataLe false enc)) → ∀ a ep, s1.heap.objs.size ≤ a → h'.get? a = some (seqObj "list" (List.toArray out) ep) → Q (.ref a) { s1 with heap := h' }) :
    wpAny (model prog w) A (call (.builtin "sorted") [.ref l]) Q E s := by
  refine call_function_entry_kw kind_sorted plain_sorted entry_sorted (args_sorted1 _) ?_
  unfold Builtin.«sorted»
  refine wpAny_bind (m := checkCount "sorted" 1 1 _) (wpAny_pure ?_)
  refine wpAny_bind (thn hcol fun vs s1 hp => ?_)
  obtain ⟨bs, e, er, hal, hk, hL, hu, hq⟩ := h vs s1 hp
  have hL' : vs.length ≤ sizeLine := by rw [e.length]; exact hL
  refine wpAny_bind (wpAny_newList ?_ (by simpa using hL'))
  have at2 : (s1.heap.push (seqObj "list" vs.toArray 0)).get? s1.heap.objs.size = some (seqObj "list" vs.toArray 0) := Heap.get?_push_size _ rfl
  show wpAny _ _ _ _ _ { s1 with heap := s1.heap.push (seqObj "list" vs.toArray 0) }
  have old2 : ∀ b u, s1.heap.get? b = some u → b ≠ s1.heap.objs.size ∧ (s1.heap.push (seqObj "list" vs.toArray 0)).get? b = some u := fun b u q => ⟨Nat.ne_of_lt (Heap.lt_size q), Heap.get?_push_of_some _ q⟩
  refine wpAny_bind (wpAny_holding (wpAny_call_entry_kw slot_list_sort ⟨_, at2, rfl⟩ entry_list_sort ?body (args_list_sort _)))
  case body =>
    show wpAny (model prog w) A.in1.in1 (Builtin.«list.sort» ⟨[.ref s1.heap.objs.size], []⟩) _ _ _
    have er' : EachIs (fun v b => ∃ as, Reads (sortingHeap (s1.heap.push (seqObj "list" vs.toArray 0)) s1.heap.objs.size vs) v (enc b) as) vs bs := er.mono fun _ _ ⟨as, r⟩ => ⟨as, PyProof.Rows.Reads.keeps (fun b u q => sortingHeap_old (old2 b u q).1 (old2 b u q).2) r⟩
    refine list_sort_vals (s := { s1 with heap := s1.heap.push (seqObj "list" vs.toArray 0) }) (κ := dataKind (sortingHeap (s1.heap.push (seqObj "list" vs.toArray 0)) s1.heap.objs.size vs) (bs.map enc)) at2 (SortsAt.data (s := { s1 with heap := sortingHeap (s1.heap.push (seqObj "list" vs.toArray 0)) s1.heap.objs.size vs }) (each_map (R := fun v d => ∃ as, Reads (sortingHeap (s1.heap.push (seqObj "list" vs.toArray 0)) s1.heap.objs.size vs) v d as) enc er') hal hk (bound_map hu)) hL' ?_
    obtain ⟨ep, he⟩ := PyProof.Rows.sortedHeap_at (vs := vs) (out := (sortVals (dataKind (sortingHeap (s1.heap.push (seqObj "list" vs.toArray 0)) s1.heap.objs.size vs) (bs.map enc)) false vs vs).toArray) at2
    refine ⟨_, rfl, wpAny_pure ⟨_, rfl, ?_⟩⟩
    refine hq _ _ (fun b u q => ?_) (by rw [sortVals_length false rfl]; exact e.length) (sortVals_data false e er' hal) _ ep (Nat.le_refl _) he
    have q2 := old2 b u q
    rw [PyProof.Rows.sortedHeap_old q2.1 (Heap.lt_size q2.2)]; exact q2.2
end
section
variable {X : Cx} {K : PySem.W.Frag} {M M' : Addr → Prop} {H H' : Hp}
/-- the dict's entries, where it stands -/
theorem KD.raw {pins : List (Addr × Obj)} {σ : L2.St} {s : Shared} {a : Addr} {es : List (NestedKey × Addr × V)} (I : L2.Inv X pins σ H s) (D : KD X.K H a es) :
    (a == sysModules) = false ∧ es.length ≤ sizeLine ∧ ∃ (o : Obj) (ents : Array DictEntry) (ep : Nat), s.heap.get? a = some o ∧ o.ExactDict ∧ o.data = .dict ents ep ∧ ents.size = es.length ∧
      ∀ (i : Nat) (e : NestedKey × Addr × V), es[i]? = some e → ∃ en : DictEntry, ents[i]? = some en ∧ en.key = .ref e.2.1 ∧ RelV e.2.2 en.val := by
  obtain ⟨⟨h1, h2, h3, o, ents, ep, xs, e1, e2, e3, e4, e5⟩, _⟩ := D.1.ok I.hok
  have l1 : ents.size = xs.length := by
    have := congrArg List.length e4
    simpa using this
  have l2 : es.length = xs.length := Paired.length e5
  refine ⟨h1, h2, o, ents, ep, e1, e2, e3, by omega, fun i e he => ?_⟩
  obtain ⟨x, hx, r1, r2, r3⟩ := L2.paired_get e5 he
  have q : ents.toList[i]? = some (⟨hsN x.1, .ref x.2.1, x.2.2⟩ : DictEntry) := by rw [e4, List.getElem?_map, hx]; rfl
  exact ⟨_, by rw [← Array.getElem?_toList]; exact q, by rw [r2], r3⟩
theorem keys_vals {es : List (NestedKey × Addr × V)} {ents : Array DictEntry} {items : Array Value} (hsz : ents.size = es.length) (ent : ∀ (i : Nat) (e : NestedKey × Addr × V), es[i]? = some e → ∃ en : DictEntry, ents[i]? = some en ∧ en.key = .ref e.2.1 ∧ RelV e.2.2 en.val)
    (it : ItemsOf (fun i v => ∃ en : DictEntry, ents[i]? = some en ∧ v = en.key) items ents.size) : Vals (es.map fun e => V.ref e.2.1) items.toList := by
  refine vals_of_at (by have h1 := it.1; have h2 : items.toList.length = items.size := Array.length_toList; rw [List.length_map]; omega) fun j x u h1 h2 => ?_
  rw [List.getElem?_map] at h1
  cases he : es[j]? with
  | none => rw [he] at h1; cases h1
  | some e =>
    rw [he] at h1
    cases h1
    obtain ⟨en, q1, q2, _⟩ := ent j e he
    obtain ⟨en', q3, q4⟩ := it.2 j u (by rw [← Array.getElem?_toList]; exact h2)
    rw [q1] at q3
    cases q3
    rw [q4, q2]
    rfl
def fListKN : List Dt → Option Vl
  | [.k ks _] => if ks.length ≤ LIM then some (.l ks, .t) else none
  | _ => none
/-- sorted(d) -/
noncomputable def rSortKN (K : PySem.W.Frag) : List V → Hp → VK → Prop := fun vs H Q => ∃ (a : Addr) (es : List (NestedKey × Addr × V)) (bs : List (V × Dt)), vs = [V.ref a] ∧ KD K H a es ∧ bs.map (·.1) = (es.map fun e => .ref e.2.1) ∧ (∀ b ∈ bs, Dp K H b.1 (toP b.2)) ∧ AllAlike (bs.map encD) ∧ Sortable (bs.map encD) ∧ (∀ b ∈ bs, (toP b.2).depth ≤ 50) ∧
  ∀ p, H p = none → Q (.ref p) (upd H p (.lst ((bs.mergeSort (dataLe false encD)).map (·.1))))
theorem cr_sortKN (hu : X.A.units + 64 < cLine) (hc : X.calm = true) : CallR X (.builtin "sorted") (rSortKN X.K) := by
  rintro pins s σ H xs us Q I r ⟨a, es, bs, rfl, D, hb, hd, hal, hk, hdp, q⟩
  rw [Vals.ref1 r]
  obtain ⟨hs, hL, o, ents, ep, ho, hx, hdt, hsz, ent⟩ := KD.raw I D
  have hbl : bs.length = es.length := by have := congrArg List.length hb; simpa using this
  refine sorted_of (enc := encD) (R := fun u b => RelV b.1 u) (P := fun vs s1 => ∃ h1 tk, s1 = { s with heap := h1, toks := tk } ∧ (∀ b o, s.heap.get? b = some o → h1.get? b = some o) ∧ s.heap.objs.size ≤ h1.objs.size ∧ Vals (bs.map (·.1)) vs)
    (collect_kdl (L2.kdl_raw hs hx hdt) (by exact I.ok.hd hc) ho (by omega) fun h1 tk items kp hz it => ⟨h1, tk, rfl, kp, hz, by rw [hb]; exact keys_vals hsz ent it⟩) ?_
  rintro vs s1 ⟨h1, tk, rfl, kp, hz, rv⟩
  have I1 : Inv X pins σ H { s with heap := h1, toks := tk } := I.kept (t' := tk) kp
  obtain ⟨e1, e2⟩ := vals_each I1 rv hd
  refine ⟨bs, e2, e1, hal, hk, by omega, fun b hb => by have : (encD b).depth ≤ 50 := hdp b hb; omega, fun h' out kp2 hlen hout p ep hp hat => ?_⟩
  have vv := each_vals hout
  have hlen' : ((bs.mergeSort (dataLe false encD)).map (·.1)).length ≤ sizeLine := by rw [List.length_map, List.length_mergeSort, hbl]; exact hL
  exact ⟨.ref p, upd H p (.lst ((bs.mergeSort (dataLe false encD)).map (·.1))), I1.laid (t' := tk) kp2 hp ⟨hlen', out, ep, vv, hat⟩, rfl, q p (I1.hok.fresh hp)⟩
noncomputable def fSortKN : List Dt → Option Vl
  | [.k ks _] => if okSort ks then some (.l (sortD ks), .t) else none
  | _ => none
theorem sort_zip {us : List V} {xs : List Dt} (c : CoL K M H us xs) (hok : okSort xs = true) : ∃ bs : List (V × Dt), bs.map (·.1) = us ∧ bs.map (·.2) = xs ∧ (∀ b ∈ bs, Co K M H b.1 b.2) ∧ (∀ b ∈ bs, Dp K H b.1 (toP b.2)) ∧ AllAlike (bs.map encD) ∧ Sortable (bs.map encD) ∧ (∀ b ∈ bs, (toP b.2).depth ≤ 50) ∧
    (∀ H', CoL K M H' us xs → CoL K M H' ((bs.mergeSort (dataLe false encD)).map (·.1)) (sortD xs)) := by
  simp only [okSort, Bool.and_eq_true, List.all_eq_true, decide_eq_true_eq] at hok
  obtain ⟨⟨⟨o1, o2⟩, o3⟩, o4⟩ := hok
  obtain ⟨z1, z2, z3⟩ := c.zip
  have e : (us.zip xs).map encD = xs.map toP := by
    have : (us.zip xs).map encD = ((us.zip xs).map (·.2)).map toP := by rw [List.map_map]; rfl
    rw [this, z2]
  have es : ((us.zip xs).mergeSort (dataLe false encD)).map (·.2) = sortD xs := by
    have := List.map_mergeSort (f := fun (x : V × Dt) => x.2) (r := dataLe false encD) (s := leD) (l := us.zip xs) (fun a _ b _ => rfl)
    rw [this, z2]; rfl
  refine ⟨us.zip xs, z1, z2, z3, fun b hb => (z3 b hb).dp (nob_dep _ (by have := o3 b.2 (by rw [← z2]; exact List.mem_map_of_mem hb); omega)), by rw [e]; exact alikeL_ok o1, by rw [e]; exact sortable_ok o2, fun b hb => o3 b.2 (by rw [← z2]; exact List.mem_map_of_mem hb), fun H' c' => ?_⟩
  obtain ⟨_, _, z4⟩ := c'.zip
  have c2 : CoL K M H' (((us.zip xs).mergeSort (dataLe false encD)).map (·.1)) (((us.zip xs).mergeSort (dataLe false encD)).map (·.2)) := CoL.of_pairs fun b hb => z4 b (List.mem_mergeSort.mp hb)
  rw [es] at c2
  exact c2
theorem pr_sortKN : Pr K (rSortKN K) fSortKN := fun M H vs xs x m Q ht c hf k => by
  unfold fSortKN at hf
  split at hf
  · rename_i ks ws
    split at hf
    · rename_i hok
      cases hf
      obtain ⟨v, rfl, c1⟩ := c.one
      obtain ⟨a, es, rfl, D, h1, h2, h3, h4⟩ := c1.kd
      obtain ⟨bs, b1, b2, b3, b4, b5, b6, b7, b8⟩ := sort_zip h2 hok
      exact ⟨a, es, bs, rfl, D, b1, b4, b5, b6, b7, fun p hp => k _ _ _ (mk_lst ht hp (b8 _ h2))⟩
    · cases hf
  · cases hf
end
section
variable {X : Cx} {K : PySem.W.Frag} {M M' : Addr → Prop} {H H' : Hp}
mutual
theorem NkAt.up (h : ∀ b xs, Rd H b (.tup xs) → Rd H' b (.tup xs)) : ∀ {v : V} {n : NestedKey}, NkAt K H v n → NkAt K H' v n
  | _, _, .num x => .num x
  | _, _, .tup q r => .tup (q.elim (fun q => .inl (h _ _ q)) .inr) (NkL.up h r)
theorem NkL.up (h : ∀ b xs, Rd H b (.tup xs) → Rd H' b (.tup xs)) : ∀ {v : List V} {n : List NestedKey}, NkL K H v n → NkL K H' v n
  | _, _, .nil => .nil
  | _, _, .cons q r => .cons (NkAt.up h q) (NkL.up h r)
end
theorem KD.up {a : Addr} {es : List (NestedKey × Addr × V)} (h : ∀ b o, H b = some o → H' b = some o) (D : KD K H a es) : KD K H' a es := by
  have hr : ∀ {b : Addr} {u : HO}, Rd H b u → Rd H' b u := fun z => z.imp (h _ _) fun ⟨o, z⟩ => ⟨o, h _ _ z⟩
  refine ⟨hr D.1, fun e he => ?_⟩
  obtain ⟨p, e1, e2, e3⟩ := D.2 e he
  exact ⟨p, e1, NkAt.up (fun b xs z => hr z) e2, e3⟩
end
end Y
namespace Y
open PySem L2 PyProof.Rows
end Y
namespace Y
open PySem L2 PyProof.Rows
end Y
namespace Y
open PySem L2 PyProof.Rows
/-- for v in name.values(), the name's own dict; given up -/
def sValsM (i : Nat) : Ev → Ou (List Dt) := fun r => match r[i]? with
  | some (some (.m ks vs, .a)) => .ok vs (r.set i (some (.m ks vs, .c)))
  | _ => .no
end Y
namespace Y
open PySem L2 PyProof.Rows
def ItX (t : Bool) (h : Heap) (it a : Addr) (i : Nat) : Prop := if t then h.IsTupleIter it a i else h.IsListIter it a i
section
variable {prog : Program} {w : World} {A : Around} {E : Value → Shared → Prop} {s : Shared} {t : Bool} {it a : Addr} {i : Nat} {xs : Array Value}
/-- a zip, whatever of its tuple is known -/
abbrev ZW (h : Heap) (z TI TO : Addr) (v : Value) (f : Bool) : Prop := h.get? z = some { cls := .type "zip", dict := none, data := .fields #[v, .bool f, .bool false, .ref TI, .ref TO], slots := #[] }
def outV (v : Value) : Prop := v = .none ∨ ∃ T : Nat, v = rawInt T
variable {z TI TO i1 i2 l1 l2 : Addr} {v : Value} {f : Bool}
variable {e : Addr} {c : Int} {old : Value}
end
section
variable {X : Cx} {pins : List (Addr × Obj)} {σ : L2.St} {H : Hp} {s : Shared} {t : Bool} {a : Addr} {xs ys : List V}
def ZSe (t : Bool) (k0 : Int) (e z TI TO i1 i2 l1 l2 : Addr) (i : Nat) (h : Heap) : Prop :=
  (∃ old, IsEnum h e z (k0 + ((i : Nat) : Int)) old) ∧ (∃ v f, ZW h z TI TO v f ∧ outV v) ∧ IsPair h TI (.ref i1) (.ref i2) ∧ (∃ a b, IsPair h TO a b) ∧ ItX t h i1 l1 i ∧ ItX t h i2 l2 i
theorem ZSe.move {k0 : Int} {e z TI TO i1 i2 l1 l2 : Addr} {i : Nat} {h h' : Heap} (st : ZSe t k0 e z TI TO i1 i2 l1 l2 i h) (k : ∀ b ∈ [e, z, TI, TO, i1, i2], ∀ o, h.get? b = some o → h'.get? b = some o) : ZSe t k0 e z TI TO i1 i2 l1 l2 i h' := by
  obtain ⟨⟨old, he⟩, ⟨v, f, hz, hv⟩, hTI, ⟨x, y, hTO⟩, g1, g2⟩ := st
  refine ⟨⟨old, k e (by simp) _ he⟩, ⟨v, f, k z (by simp) _ hz, hv⟩, k TI (by simp) _ hTI, ⟨x, y, k TO (by simp) _ hTO⟩, ?_, ?_⟩
  · cases t
    · exact Heap.IsListIter.at g1 fun o q => k i1 (by simp) o q
    · exact Heap.IsTupleIter.at g1 fun o q => k i1 (by simp) o q
  · cases t
    · exact Heap.IsListIter.at g2 fun o q => k i2 (by simp) o q
    · exact Heap.IsTupleIter.at g2 fun o q => k i2 (by simp) o q
end
section
variable {X : Cx} {K : PySem.W.Frag} {cl : Str → Addr} {W : WX}
/-- enumerate(zip(a, b), k0) -/
def sEnumZ (k0 : Int) : List Dt → Option (List Dt)
  | [.l xs, .l ys] => some (enumD k0 (zipD xs ys))
  | [.t xs, .t ys] => some (enumD k0 (zipD xs ys))
  | _ => none
end
end Y
namespace Y
open PySem L2 PyProof.Rows
def wE (f : Ev → Ou Vl) (r : Ev) (Q : Vl → Ev → Prop) : Prop := match f r with
  | .ok x r' => Q x r'
  | _ => False
def wT (f : Ev → Ou Bool) (r : Ev) (Q : Bool → Ev → Prop) : Prop := match f r with
  | .ok x r' => Q x r'
  | _ => False
def wI (f : Ev → Ou (List Dt)) (r : Ev) (Q : List Dt → Ev → Prop) : Prop := match f r with
  | .ok x r' => Q x r'
  | _ => False
def wS (g : Ev → So) (r : Ev) (Qn : Ev → Prop) (Qr : Vl → Ev → Prop) (Qb Qc : Ev → Prop) : Prop := match g r with
  | .nx r' => Qn r'
  | .rt x r' => Qr x r'
  | .bk r' => Qb r'
  | .ct r' => Qc r'
  | _ => False
def wA (as : List Am) (r : Ev) (Q : List Ag → Ev → Prop) : Prop := match evA as r with
  | .ok x r' => Q x r'
  | _ => False
def wO (o : Option Vl) (Q : Dt → Md → Prop) : Prop := match o with
  | some (x, m) => Q x m
  | none => False
def wL (o : Option (List Dt)) (Q : List Dt → Prop) : Prop := match o with
  | some x => Q x
  | none => False
def wG (o : Option (Option Vl)) (Q : Dt → Md → Prop) : Prop := match o with
  | some (some (x, m)) => Q x m
  | _ => False
def wK (o : Option Ev) (Q : Ev → Prop) : Prop := match o with
  | some r => Q r
  | none => False
def wFn (f : Fn) (xs : List Vl) (Q : Vl → Vl → Prop) : Prop := match f xs with
  | .rt x z => Q x z
  | _ => False
def wX (o : Option (Option Vl)) (P : Prop) (Q : Dt → Prop) : Prop := match o with
  | some (some (x, _)) => Q x
  | _ => P
/-- a slot given a value; then .. -/
def setK (r : Ev) (i : Nat) (o : Option Vl) (Q : Ev → Prop) : Prop := Q (r.set i o)
def wB (b : Bool) (P Q : Prop) : Prop := if b = true then P else Q
def frzK (ys : List Ag) (r : Ev) (Q : Ev → Prop) : Prop := Q (frz ys r)
def wZ (x : Dt) (ys : List Ag) (r : Ev) (Q : Ev → Prop) : Prop := Q (if x.flat then r else frz ys r)
def wM (x : Vl) (ys : List Ag) (r : Ev) (Q : Ev → Prop) : Prop := Q (if zfl x then r else frz ys r)
def isC : Option (Option Vl) → Bool
  | some (some (_, .c)) => true
  | some (some _) => false
  | _ => true
def allC : List Ag → Ev → Bool
  | [], _ => true
  | .d _ :: ys, r => allC ys r
  | .v i :: ys, r => isC r[i]? && allC ys r
theorem frz_c : ∀ {ys : List Ag} {r : Ev}, allC ys r = true → frz ys r = r
  | [], _, _ => rfl
  | .d _ :: ys, r, h => frz_c (ys := ys) h
  | .v i :: ys, r, h => by
    simp only [allC, Bool.and_eq_true] at h
    simp only [frz]
    cases e : r[i]? with
    | none => exact frz_c h.2
    | some o =>
      cases o with
      | none => exact frz_c h.2
      | some xm =>
        obtain ⟨x, m⟩ := xm
        have hm : m = .c := by
          have := h.1
          rw [e] at this
          cases m <;> simp [isC] at this ⊢
        subst hm
        have : r.set i (some (x, .c)) = r := by
          apply List.ext_getElem?
          intro j
          by_cases q : i = j
          · subst q; rw [List.getElem?_set_self (List.getElem?_eq_some_iff.mp e).1, e]
          · rw [List.getElem?_set_ne q]
        simp only [this]
        exact frz_c h.2
section
variable {f g : Ev → Ou Vl} {c d : Ev → Ou Bool} {s u : Ev → So} {r : Ev} {Q : Vl → Ev → Prop} {QT : Bool → Ev → Prop} {QI : List Dt → Ev → Prop} {Qn Qb Qc : Ev → Prop} {Qr : Vl → Ev → Prop} {QA : List Ag → Ev → Prop} {i n : Nat} {x : Dt} {m : Md} {as : List Am} {fn : Fn} {p : List Dt → Option Vl}
@[simp] theorem wO_some {Q : Dt → Md → Prop} : wO (some (x, m)) Q = Q x m := id rfl
@[simp] theorem wO_none {Q : Dt → Md → Prop} : wO none Q = False := id rfl
@[simp] theorem wL_some {Q : List Dt → Prop} {xs : List Dt} : wL (some xs) Q = Q xs := id rfl
@[simp] theorem wL_none {Q : List Dt → Prop} : wL none Q = False := id rfl
@[simp] theorem wG_some {Q : Dt → Md → Prop} : wG (some (some (x, m))) Q = Q x m := id rfl
@[simp] theorem wK_some {Q : Ev → Prop} : wK (some r) Q = Q r := id rfl
@[simp] theorem wK_none {Q : Ev → Prop} : wK none Q = False := id rfl
@[simp] theorem setK_0 {o o' : Option Vl} {Q : Ev → Prop} : setK (o' :: r) 0 o Q = Q (o :: r) := id rfl
@[simp] theorem setK_s {o o' : Option Vl} {Q : Ev → Prop} : setK (o' :: r) (i + 1) o Q = setK r i o fun r1 => Q (o' :: r1) := id rfl
@[simp] theorem wB_t {P Q : Prop} : wB true P Q = P := id rfl
@[simp] theorem wB_f {P Q : Prop} : wB false P Q = Q := by simp [wB]
@[simp] theorem wG_0 {Q : Dt → Md → Prop} : wG (some (x, m) :: r)[0]? Q = Q x m := id rfl
@[simp] theorem wG_s {Q : Dt → Md → Prop} {o : Option Vl} : wG (o :: r)[i + 1]? Q = wG r[i]? Q := id rfl
@[simp] theorem isC_0 : isC (some (x, .c) :: r)[0]? = true := id rfl
@[simp] theorem isC_1 : isC (some (x, .t) :: r)[0]? = false := id rfl
@[simp] theorem isC_2 : isC (some (x, .a) :: r)[0]? = false := id rfl
@[simp] theorem isC_s {o : Option Vl} : isC (o :: r)[i + 1]? = isC r[i]? := id rfl
@[simp] theorem allC_n : allC [] r = true := id rfl
@[simp] theorem allC_d {ys : List Ag} : allC (.d x :: ys) r = allC ys r := id rfl
@[simp] theorem allC_v {ys : List Ag} : allC (.v i :: ys) r = (isC r[i]? && allC ys r) := id rfl
@[simp] theorem frzK_n {Q : Ev → Prop} : frzK [] r Q = Q r := id rfl
@[simp] theorem frzK_d {Q : Ev → Prop} {ys : List Ag} : frzK (.d x :: ys) r Q = frzK ys r Q := id rfl
@[simp] theorem frzK_c {Q : Ev → Prop} {ys : List Ag} (h : allC ys r = true) : frzK ys r Q = Q r := by unfold frzK; rw [frz_c h]
theorem frzK_v {Q : Ev → Prop} {ys : List Ag} {o : Vl} (h : r[i]? = some (some o)) : frzK (.v i :: ys) r Q = setK r i (some (o.1, .c)) fun r1 => frzK ys r1 Q := by
  unfold frzK setK
  simp only [frz, h]
@[simp] theorem frzK_w {Q : Ev → Prop} {ys : List Ag} : frzK (.v i :: ys) r Q = wX r[i]? (frzK ys r Q) fun x => setK r i (some (x, .c)) fun r1 => frzK ys r1 Q := by
  unfold wX
  cases h : r[i]? with
  | none => unfold frzK; simp only [frz, h]
  | some o =>
    cases o with
    | none => unfold frzK; simp only [frz, h]
    | some o => exact frzK_v h
@[simp] theorem wX_0 {P : Prop} {Q : Dt → Prop} : wX (some (x, m) :: r)[0]? P Q = Q x := id rfl
@[simp] theorem wX_s {P : Prop} {Q : Dt → Prop} {o : Option Vl} : wX (o :: r)[i + 1]? P Q = wX r[i]? P Q := id rfl
@[simp] theorem wZ_c {Q : Ev → Prop} {ys : List Ag} (h : allC ys r = true) : wZ x ys r Q = Q r := by unfold wZ; rw [frz_c h, ite_self]
@[simp] theorem wZ_i {Q : Ev → Prop} {ys : List Ag} {a : Int} : wZ (.i a) ys r Q = Q r := id rfl
@[simp] theorem wZ_b {Q : Ev → Prop} {ys : List Ag} {a : Bool} : wZ (.b a) ys r Q = Q r := id rfl
@[simp] theorem wZ_u {Q : Ev → Prop} {ys : List Ag} {a : Str} : wZ (.s a) ys r Q = Q r := id rfl
@[simp] theorem wZ_n {Q : Ev → Prop} {ys : List Ag} : wZ .n ys r Q = Q r := id rfl
@[simp] theorem wZ_l {Q : Ev → Prop} {ys : List Ag} {xs : List Dt} : wZ (.l xs) ys r Q = frzK ys r Q := id rfl
@[simp] theorem wZ_t {Q : Ev → Prop} {ys : List Ag} {xs : List Dt} : wZ (.t xs) ys r Q = wB (flatL xs) (Q r) (frzK ys r Q) := by
  unfold wZ wB frzK
  simp only [Dt.flat]
  by_cases h : flatL xs = true <;> simp [h]
@[simp] theorem wM_c {Q : Ev → Prop} {ys : List Ag} {y : Vl} (h : allC ys r = true) : wM y ys r Q = Q r := by unfold wM; rw [frz_c h, ite_self]
@[simp] theorem wM_i {Q : Ev → Prop} {ys : List Ag} {a : Int} : wM (.i a, m) ys r Q = Q r := by cases m <;> exact id rfl
@[simp] theorem wM_b {Q : Ev → Prop} {ys : List Ag} {a : Bool} : wM (.b a, m) ys r Q = Q r := by cases m <;> exact id rfl
@[simp] theorem wM_u {Q : Ev → Prop} {ys : List Ag} {a : Str} : wM (.s a, m) ys r Q = Q r := by cases m <;> exact id rfl
@[simp] theorem wM_n {Q : Ev → Prop} {ys : List Ag} : wM (.n, m) ys r Q = Q r := by cases m <;> exact id rfl
@[simp] theorem wM_a {Q : Ev → Prop} {ys : List Ag} : wM (x, .a) ys r Q = Q r := by unfold wM zfl; simp
@[simp] theorem wM_lc {Q : Ev → Prop} {ys : List Ag} {xs : List Dt} : wM (.l xs, .c) ys r Q = frzK ys r Q := id rfl
@[simp] theorem wM_lt {Q : Ev → Prop} {ys : List Ag} {xs : List Dt} : wM (.l xs, .t) ys r Q = wB (flatL xs) (Q r) (frzK ys r Q) := by
  unfold wM wB frzK
  simp only [zfl]
  by_cases h : flatL xs = true <;> simp [h]
@[simp] theorem wM_tc {Q : Ev → Prop} {ys : List Ag} {xs : List Dt} : wM (.t xs, .c) ys r Q = wB (flatL xs) (Q r) (frzK ys r Q) := by
  unfold wM wB frzK
  simp only [zfl, Dt.flat]
  by_cases h : flatL xs = true <;> simp [h]
theorem wM_f {Q : Ev → Prop} {ys : List Ag} {y : Vl} (h : zfl y = true) : wM y ys r Q = Q r := by unfold wM; rw [if_pos h]
@[simp] theorem wLk_n {Q : List Dt → Prop} : wL (look r []) Q = Q [] := id rfl
@[simp] theorem wLk_d {Q : List Dt → Prop} {ys : List Ag} : wL (look r (.d x :: ys)) Q = wL (look r ys) fun xs => Q (x :: xs) := by
  unfold wL
  simp only [look]
  cases look r ys <;> rfl
@[simp] theorem wLk_v {Q : List Dt → Prop} {ys : List Ag} : wL (look r (.v i :: ys)) Q = wG r[i]? fun x _ => wL (look r ys) fun xs => Q (x :: xs) := by
  unfold wL wG
  simp only [look]
  cases r[i]? with
  | none => rfl
  | some o =>
    cases o with
    | none => rfl
    | some xm =>
      simp only
      cases look r ys <;> rfl
@[simp] theorem wA_nil : wA [] r QA = QA [] r := id rfl
@[simp] theorem wA_e : wA (.e f :: as) r QA = wE f r fun x r1 => wA as r1 fun ys r2 => QA (.d x.1 :: ys) r2 := by
  unfold wA wE
  simp only [evA]
  cases f r with
  | ok x r1 =>
    obtain ⟨x, m⟩ := x
    simp only
    cases evA as r1 <;> rfl
  | ex _ _ _ => rfl
  | no => rfl
@[simp] theorem wA_v : wA (.v i :: as) r QA = wG r[i]? fun _ _ => wA as r fun ys r2 => QA (.v i :: ys) r2 := by
  unfold wA wG
  simp only [evA]
  cases h : r[i]? with
  | none => rfl
  | some o =>
    cases o with
    | none => rfl
    | some xm => cases evA as r <;> rfl
@[simp] theorem wE_K : wE (mK x) r Q = Q (x, .c) r := id rfl
@[simp] theorem wE_V : wE (mV i) r Q = wG r[i]? fun x _ => wZ x [.v i] r (Q (x, .c)) := by
  unfold wE wG wZ
  simp only [mV, frz]
  cases h : r[i]? with
  | none => rfl
  | some o => cases o <;> rfl
@[simp] theorem wE_P : wE (mP p as) r Q = wA as r fun ys r1 => wL (look r1 ys) fun xs => wO (p xs) fun x m => wZ x ys r1 (Q (x, m)) := by
  unfold wE wA wL wO wZ
  simp only [mP]
  cases evA as r with
  | ok ys r1 =>
    simp only
    cases look r1 ys with
    | none => rfl
    | some xs =>
      simp only
      cases p xs <;> rfl
  | ex _ _ _ => rfl
  | no => rfl
@[simp] theorem wE_C : wE (mC fn as) r Q = wA as r fun ys r1 => wL (look r1 ys) fun xs => wFn fn (cold xs) fun x _ => wM x ys r1 (Q x) := by
  unfold wE wA wL wFn wM
  simp only [mC]
  cases evA as r with
  | ok ys r1 =>
    simp only
    cases look r1 ys with
    | none => rfl
    | some xs =>
      simp only
      cases fn (cold xs) with
      | rt x z => rfl
      | ex c fs z => by_cases q : flatF fs = true <;> simp [q]
      | no => rfl
  | ex _ _ _ => rfl
  | no => rfl
@[simp] theorem wE_CK {ps : List Nat} : wE (mCK fn ps as) r Q = wA as r fun ys r1 => wL (look r1 ys) fun xs => wFn fn (pick ps (.n, .c) (cold xs)) fun x _ => wM x ys r1 (Q x) := wE_C
@[simp] theorem wE_CI : wE (mCI fn i as) r Q = wA (.v i :: as) r fun ys r1 => wG r1[i]? fun x0 m0 => setK r1 i none fun r2 => wL (look r2 ys.tail) fun xs => wFn fn ((x0, m0) :: cold xs) fun x z => wB (zfl x && zfl z || allC ys.tail r2) (setK r2 i (some z) (Q x)) (frzK ys.tail r2 fun r3 => setK r3 i (some z) (Q x)) := by
  unfold wE setK wB frzK
  conv => rhs; unfold wA
  simp only [mCI]
  cases evA (.v i :: as) r with
  | ok ys r1 =>
    simp only
    cases h : r1[i]? with
    | none => rfl
    | some o =>
      cases o with
      | none => rfl
      | some xm =>
        obtain ⟨x0, m0⟩ := xm
        simp only [wG_some]
        cases look (r1.set i none) ys.tail with
        | none => rfl
        | some xs =>
          simp only [wL_some]
          unfold wFn
          cases fn ((x0, m0) :: cold xs) with
          | rt x z =>
            obtain ⟨x, m⟩ := x
            simp only
            by_cases q : (zfl (x, m) && zfl z) = true
            · simp [q]
            · by_cases q2 : allC ys.tail (r1.set i none) = true
              · simp only [q, q2, Bool.or_true, if_true, frz_c q2]; simp
              · simp [q, q2]
          | ex c fs z => by_cases q : (flatF fs && zfl z) = true <;> simp [q]
          | no => rfl
  | ex _ _ _ => rfl
  | no => rfl
@[simp] theorem wE_CM : wE (mCM fn f as) r Q = wE f r fun xm r1 => wA as r1 fun ys r2 => wL (look r2 ys) fun xs => wFn fn (xm :: cold xs) fun x z => wB (zfl x && zfl z || allC ys r2) (Q x r2) (frzK ys r2 (Q x)) := by
  unfold wE wB frzK
  simp only [mCM]
  cases f r with
  | ok xm r1 =>
    simp only
    unfold wA
    cases evA as r1 with
    | ok ys r2 =>
      simp only
      cases look r2 ys with
      | none => rfl
      | some xs =>
        simp only [wL_some]
        unfold wFn
        cases fn (xm :: cold xs) with
        | rt x z =>
          obtain ⟨x, m⟩ := x
          simp only
          by_cases q : (zfl (x, m) && zfl z) = true
          · simp [q]
          · by_cases q2 : allC ys r2 = true
            · simp only [q, q2, Bool.or_true, if_true, frz_c q2]; simp
            · simp [q, q2]
        | ex c fs z => by_cases q : (flatF fs && zfl z) = true <;> simp [q]
        | no => rfl
    | ex _ _ _ => rfl
    | no => rfl
  | ex _ _ _ => rfl
  | no => rfl
@[simp] theorem wE_If : wE (mIf c f g) r Q = wT c r fun b r1 => (b = true → wE f r1 Q) ∧ (b = false → wE g r1 Q) := by
  unfold wE wT
  simp only [mIf]
  cases c r with
  | ok b r1 => cases b <;> simp
  | ex _ _ _ => rfl
  | no => rfl
@[simp] theorem wE_And : wE (mAndV f g) r Q = wE f r fun x r1 => match x.1 with
    | .b k => (k = true → wE g r1 Q) ∧ (k = false → Q (.b false, .c) r1)
    | _ => False := by
  unfold wE
  simp only [mAndV]
  cases f r with
  | ok x r1 =>
    obtain ⟨x, m⟩ := x
    cases x with
    | b k => cases k <;> simp
    | _ => rfl
  | ex _ _ _ => rfl
  | no => rfl
@[simp] theorem wE_Or : wE (mOrV f g) r Q = wE f r fun x r1 => match x.1 with
    | .b k => (k = true → Q (.b true, .c) r1) ∧ (k = false → wE g r1 Q)
    | _ => False := by
  unfold wE
  simp only [mOrV]
  cases f r with
  | ok x r1 =>
    obtain ⟨x, m⟩ := x
    cases x with
    | b k => cases k <;> simp
    | _ => rfl
  | ex _ _ _ => rfl
  | no => rfl
@[simp] theorem wE_Not : wE (mNotV f) r Q = wE f r fun x r1 => match x.1 with
    | .b k => Q (.b (!k), .c) r1
    | _ => False := by
  unfold wE
  simp only [mNotV]
  cases f r with
  | ok x r1 =>
    obtain ⟨x, m⟩ := x
    cases x <;> rfl
  | ex _ _ _ => rfl
  | no => rfl
@[simp] theorem wE_Lc {own : Bool} {vs : List Nat} {q : Ev → Ou (List Dt)} {t : Vl → Ev → Option Ev} : wE (mLc own vs q t c f) r Q = wI q r fun xs r1 => xs.length ≤ LIM ∧ ∃ ys r2, lcL vs t c f own xs (wipeE r1 vs) [] = .ok ys r2 ∧ Q (.l ys, if own then .a else .t) (rsE r1 vs r2) := by
  unfold wE wI
  simp only [mLc]
  cases q r with
  | ok xs r1 =>
    simp only
    by_cases h : xs.length ≤ LIM
    · rw [if_pos h]
      cases e : lcL vs t c f own xs (wipeE r1 vs) [] with
      | ok ys r2 =>
        simp only [eq_iff_iff]
        exact ⟨fun z => ⟨h, ys, r2, rfl, z⟩, fun ⟨_, ys', r', h1, h2⟩ => by cases h1; exact h2⟩
      | ex _ _ _ => simp
      | no => simp
    · simp [h]
  | ex _ _ _ => rfl
  | no => rfl
/-- slices -/
def wP (o : Option (Ev → Ou Vl)) (r : Ev) (Q : Option Int → Ev → Prop) : Prop := match evP o r with
  | .ok x r' => Q x r'
  | _ => False
@[simp] theorem wP_none {Q : Option Int → Ev → Prop} : wP none r Q = Q none r := id rfl
@[simp] theorem wP_some {Q : Option Int → Ev → Prop} : wP (some f) r Q = wE f r fun x r1 => match x.1 with
    | .i k => Q (some k) r1
    | _ => False := by
  unfold wP wE
  simp only [evP]
  cases f r with
  | ok x r1 =>
    obtain ⟨x, m⟩ := x
    cases x <;> rfl
  | ex _ _ _ => rfl
  | no => rfl
@[simp] theorem wT_Te : wT (mTe f) r QT = wE f r fun x r1 => match x.1 with
    | .b k => QT k r1
    | _ => False := by
  unfold wT wE
  simp only [mTe]
  cases f r with
  | ok x r1 =>
    obtain ⟨x, m⟩ := x
    cases x <;> rfl
  | ex _ _ _ => rfl
  | no => rfl
@[simp] theorem wT_Not : wT (mNot c) r QT = wT c r fun k r1 => QT (!k) r1 := by
  unfold wT
  simp only [mNot]
  cases c r <;> rfl
@[simp] theorem wT_And : wT (mAnd c d) r QT = wT c r fun k r1 => (k = true → wT d r1 QT) ∧ (k = false → QT false r1) := by
  unfold wT
  simp only [mAnd]
  cases c r with
  | ok k r1 => cases k <;> simp
  | ex _ _ _ => rfl
  | no => rfl
@[simp] theorem wT_Or : wT (mOr c d) r QT = wT c r fun k r1 => (k = true → QT true r1) ∧ (k = false → wT d r1 QT) := by
  unfold wT
  simp only [mOr]
  cases c r with
  | ok k r1 => cases k <;> simp
  | ex _ _ _ => rfl
  | no => rfl
@[simp] theorem wT_Yes : wT mYes r QT = QT true r := id rfl
@[simp] theorem wI_S {q : List Dt → Option (List Dt)} : wI (mS q as) r QI = wA as r fun ys r1 => wL (look r1 ys) fun xs => wL (q xs) fun ds => frzK ys r1 (QI ds) := by
  unfold wI wA wL frzK
  simp only [mS]
  cases evA as r with
  | ok ys r1 =>
    simp only
    cases look r1 ys with
    | none => rfl
    | some xs =>
      simp only
      cases q xs <;> rfl
  | ex _ _ _ => rfl
  | no => rfl
@[simp] theorem wS_seq : wS (sSeq s u) r Qn Qr Qb Qc = wS s r (fun r1 => wS u r1 Qn Qr Qb Qc) Qr Qb Qc := by
  unfold wS
  simp only [sSeq]
  cases s r <;> rfl
@[simp] theorem wS_nx : wS sNx r Qn Qr Qb Qc = Qn r := id rfl
@[simp] theorem wS_bk : wS sBk r Qn Qr Qb Qc = Qb r := id rfl
@[simp] theorem wS_ct : wS sCt r Qn Qr Qb Qc = Qc r := id rfl
@[simp] theorem wS_no : wS sNo r Qn Qr Qb Qc = False := id rfl
@[simp] theorem wS_asg {t : Vl → Ev → Option Ev} : wS (sAsg f t) r Qn Qr Qb Qc = wE f r fun x r1 => wK (t x r1) Qn := by
  unfold wS wE
  simp only [sAsg, sWith]
  cases f r with
  | ok x r1 =>
    simp only
    cases h : t x r1 <;> simp
  | ex _ _ _ => rfl
  | no => rfl
@[simp] theorem wS_expr : wS (sExpr f) r Qn Qr Qb Qc = wE f r fun _ r1 => Qn r1 := by
  unfold wS wE
  simp only [sExpr, sWith]
  cases f r <;> rfl
@[simp] theorem wS_ret : wS (sRet f) r Qn Qr Qb Qc = wE f r Qr := by
  unfold wS wE
  simp only [sRet, sWith]
  cases f r <;> rfl
@[simp] theorem wS_retV : wS (sRetV i) r Qn Qr Qb Qc = wG r[i]? fun x m => setK r i none (Qr (x, m)) := by
  unfold wS wG setK
  simp only [sRetV]
  cases r[i]? with
  | none => rfl
  | some o => cases o <;> rfl
@[simp] theorem wS_retN : wS sRetN r Qn Qr Qb Qc = Qr (.n, .c) r := id rfl
@[simp] theorem wS_if : wS (sIf c s u) r Qn Qr Qb Qc = wT c r fun b r1 => (b = true → wS s r1 Qn Qr Qb Qc) ∧ (b = false → wS u r1 Qn Qr Qb Qc) := by
  unfold wS wT
  simp only [sIf]
  cases c r with
  | ok b r1 => cases b <;> simp
  | ex _ _ _ => rfl
  | no => rfl
@[simp] theorem wLen_0 {o : Option Vl} : (0 < (o :: r).length) = True := by simp
@[simp] theorem wLen_s {o : Option Vl} : (i + 1 < (o :: r).length) = (i < r.length) := by simp
@[simp] theorem wK_tgV {Q : Ev → Prop} : wK (tgV i (x, m) r) Q = (i < r.length ∧ setK r i (some (x, m)) Q) := by
  unfold wK tgV setK
  by_cases h : i < r.length <;> simp [h]
@[simp] theorem wK_tgI {Q : Ev → Prop} : wK (tgI i f (x, m) r) Q = (isL i r = true ∧ wE f r fun k r1 => match k.1 with
    | .i k => wG r1[i]? fun y my => wO (stL (y, my) k (x, m)) fun z mz => setK r1 i (some (z, mz)) Q
    | _ => False) := by
  unfold wK tgI wE setK
  by_cases h : isL i r = true
  · rw [if_pos h]
    simp only [h, true_and]
    cases f r with
    | ok k r1 =>
      obtain ⟨k, mk⟩ := k
      cases k with
      | i k =>
        simp only
        cases r1[i]? with
        | none => rfl
        | some o =>
          cases o with
          | none => rfl
          | some y =>
            obtain ⟨y, my⟩ := y
            simp only [wG_some]
            cases stL (y, my) k (x, m) <;> rfl
      | _ => rfl
    | ex _ _ _ => rfl
    | no => rfl
  · simp [h]
@[simp] theorem wK_tgT {Q : Ev → Prop} {ts : List (Vl → Ev → Option Ev)} {xs : List Dt} : wK (tgT ts (.t xs, m) r) Q = wK (tgs ts xs r) Q := id rfl
@[simp] theorem wK_tgTl {Q : Ev → Prop} {ts : List (Vl → Ev → Option Ev)} {xs : List Dt} : wK (tgT ts (.l xs, m) r) Q = wK (tgs ts xs r) Q := id rfl
@[simp] theorem wK_tgTz {Q : Ev → Prop} {ts : List (Vl → Ev → Option Ev)} {xs : List Dt} : wK (tgT ts (.z xs, m) r) Q = wK (tgs ts xs r) Q := id rfl
@[simp] theorem wK_tgs0 {Q : Ev → Prop} : wK (tgs [] [] r) Q = Q r := id rfl
@[simp] theorem wK_tgs {Q : Ev → Prop} {t : Vl → Ev → Option Ev} {ts : List (Vl → Ev → Option Ev)} {xs : List Dt} : wK (tgs (t :: ts) (x :: xs) r) Q = wK (t (x, .c) r) fun r1 => wK (tgs ts xs r1) Q := by
  unfold wK
  simp only [tgs]
  cases t (x, .c) r <;> rfl
@[simp] theorem isL_0 {xs : List Dt} : isL 0 (some (.l xs, m) :: r) = true := id rfl
@[simp] theorem isL_s {o : Option Vl} : isL (i + 1) (o :: r) = isL i r := id rfl
@[simp] theorem wS_app : wS (sAppG i f) r Qn Qr Qb Qc = (isL i r = true ∧ wE f r fun y r1 => wG r1[i]? fun x m => wO (apL (x, m) y) fun z mz => setK r1 i (some (z, mz)) Qn) := by
  unfold wS wE setK
  simp only [sAppG]
  by_cases h : isL i r = true
  · simp only [h, if_true, true_and, sApp, sWith]
    cases f r with
    | ok y r1 =>
      simp only
      cases r1[i]? with
      | none => rfl
      | some o =>
        cases o with
        | none => rfl
        | some x =>
          obtain ⟨x, m⟩ := x
          simp only [wG_some]
          cases apL (x, m) y <;> rfl
    | ex _ _ _ => rfl
    | no => rfl
  · simp [h]
def wH (fs : List (Ev → Ou Vl)) (r : Ev) (Q : List Vl → Ev → Prop) : Prop := match evH fs r with
  | .ok x r' => Q x r'
  | _ => False
@[simp] theorem wH_nil {Q : List Vl → Ev → Prop} : wH [] r Q = Q [] r := id rfl
@[simp] theorem wH_cons {Q : List Vl → Ev → Prop} {fs : List (Ev → Ou Vl)} : wH (f :: fs) r Q = wE f r fun x r1 => wH fs r1 fun xs r2 => Q (x :: xs) r2 := by
  unfold wH wE
  simp only [evH]
  cases f r with
  | ok x r1 =>
    simp only
    cases evH fs r1 <;> rfl
  | ex _ _ _ => rfl
  | no => rfl
@[simp] theorem wS_par {is : List Nat} {fs : List (Ev → Ou Vl)} : wS (sPar is fs) r Qn Qr Qb Qc = wH fs r fun xs r1 => wK (putE is xs r1) Qn := by
  unfold wS wH
  simp only [sPar]
  cases evH fs r with
  | ok xs r1 =>
    simp only
    cases h : putE is xs r1 <;> simp
  | ex _ _ _ => rfl
  | no => rfl
@[simp] theorem wK_put0 {Q : Ev → Prop} : wK (putE [] [] r) Q = Q r := id rfl
@[simp] theorem wK_put {Q : Ev → Prop} {is : List Nat} {xs : List Vl} {y : Vl} : wK (putE (i :: is) (y :: xs) r) Q = (i < r.length ∧ setK r i (some y) fun r1 => wK (putE is xs r1) Q) := by
  unfold wK setK
  simp only [putE]
  by_cases h : i < r.length <;> simp [h]
@[simp] theorem wS_aug {C : Int → Int → Bool} {o : Int → Int → Int} : wS (sAug i C o f) r Qn Qr Qb Qc = wG r[i]? fun x _ => match x with
    | .i a => wE f r fun y r1 => match y.1 with
      | .i b => C a b = true ∧ setK r1 i (some (.i (o a b), .c)) Qn
      | _ => False
    | _ => False := by
  unfold wS wG wE setK
  simp only [sAug]
  cases r[i]? with
  | none => rfl
  | some z =>
    cases z with
    | none => rfl
    | some xm =>
      obtain ⟨x, m⟩ := xm
      cases x with
      | i a =>
        simp only
        cases f r with
        | ok y r1 =>
          obtain ⟨y, my⟩ := y
          cases y with
          | i b =>
            simp only
            by_cases h : C a b = true <;> simp [h]
          | _ => rfl
        | ex _ _ _ => rfl
        | no => rfl
      | _ => rfl
theorem wS_for {q : Ev → Ou (List Dt)} {t : Vl → Ev → Option Ev} {body : Ev → So} (P : Nat → Ev → Prop) {xs : List Dt} {r1 : Ev} (hq : q r = .ok xs r1) (h0 : P 0 r1)
    (hs : ∀ k x r, xs[k]? = some x → P k r → wK (t (x, .c) r) fun r2 => wS body r2 (P (k + 1)) Qr Qn (P (k + 1))) (hn : ∀ r, P xs.length r → Qn r) : wS (sFor q t body) r Qn Qr Qb Qc := by
  have go : ∀ (ys : List Dt) (k : Nat) (r : Ev), (∀ i, ys[i]? = xs[k + i]?) → k + ys.length = xs.length → P k r → wS (fun r => forL t body ys r) r Qn Qr Qb Qc := by
    intro ys
    induction ys with
    | nil =>
      intro k r _ hk hp
      have : k = xs.length := by simpa using hk
      subst this
      exact hn r hp
    | cons y ys ih =>
      intro k r hy hk hp
      have h1 := hs k y r (by have := hy 0; simpa using this.symm) hp
      unfold wS
      simp only [forL]
      cases ht : t (y, .c) r with
      | none => rw [ht] at h1; exact h1
      | some r2 =>
        rw [ht] at h1
        simp only
        have h1 : wS body r2 (P (k + 1)) Qr Qn (P (k + 1)) := h1
        have nx : ∀ r3, P (k + 1) r3 → wS (fun r => forL t body ys r) r3 Qn Qr Qb Qc := fun r3 h3 => ih (k + 1) r3 (fun i => by
          have := hy (i + 1)
          rw [show k + (i + 1) = k + 1 + i by omega] at this
          simpa using this) (by simp at hk; omega) h3
        unfold wS at h1
        cases hb : body r2 with
        | nx r3 => rw [hb] at h1; exact nx r3 h1
        | ct r3 => rw [hb] at h1; exact nx r3 h1
        | bk r3 => rw [hb] at h1; exact h1
        | rt z r3 => rw [hb] at h1; exact h1
        | ex _ _ _ => rw [hb] at h1; exact h1
        | no => rw [hb] at h1; exact h1
  have := go xs 0 r1 (fun i => by simp) (by simp) h0
  unfold wS at this ⊢
  simp only [sFor, hq]
  exact this
theorem wS_for' {q : Ev → Ou (List Dt)} {t : Vl → Ev → Option Ev} {body : Ev → So} (h : wI q r fun xs r1 => ∃ P : Nat → Ev → Prop, P 0 r1 ∧ (∀ k x r, xs[k]? = some x → P k r → wK (t (x, .c) r) fun r2 => wS body r2 (P (k + 1)) Qr Qn (P (k + 1))) ∧ ∀ r, P xs.length r → Qn r) : wS (sFor q t body) r Qn Qr Qb Qc := by
  unfold wI at h
  cases hq : q r with
  | ok xs r1 =>
    rw [hq] at h
    obtain ⟨P, h0, h1, h2⟩ := h
    exact wS_for P hq h0 h1 h2
  | ex _ _ _ => rw [hq] at h; exact h.elim
  | no => rw [hq] at h; exact h.elim
/-- a comprehension, item by item; the state stays -/
theorem lc_map {own : Bool} {vs : List Nat} {t : Vl → Ev → Option Ev} (G : Dt → Dt) : ∀ (xs acc : List Dt), (∀ x ∈ xs, wK (t (x, .c) r) fun r1 => wT c r1 fun b r2 => b = true ∧ wE f r2 fun y r3 => y.1 = G x ∧ (own = true → zfl y = true) ∧ wipeE r3 vs = r) → lcL vs t c f own xs r acc = .ok (acc ++ xs.map G) r
  | [], acc, _ => by simp [lcL]
  | x :: xs, acc, h => by
    have h1 := h x List.mem_cons_self
    unfold wK at h1
    simp only [lcL]
    cases ht : t (x, .c) r with
    | none => rw [ht] at h1; exact h1.elim
    | some r1 =>
      rw [ht] at h1
      simp only at h1 ⊢
      unfold wT at h1
      cases hc : c r1 with
      | ok b r2 =>
        rw [hc] at h1
        obtain ⟨rfl, h1⟩ := h1
        simp only
        unfold wE at h1
        cases hf : f r2 with
        | ok y r3 =>
          rw [hf] at h1
          obtain ⟨y, my⟩ := y
          obtain ⟨e1, e2, e3⟩ := h1
          simp only at e1 ⊢
          subst e1
          rw [e3, if_neg (by cases own <;> simp_all), lc_map G xs _ fun z hz => h z (List.mem_cons_of_mem _ hz)]
          simp
        | ex _ _ _ => rw [hf] at h1; exact h1.elim
        | no => rw [hf] at h1; exact h1.elim
      | ex _ _ _ => rw [hc] at h1; exact h1.elim
      | no => rw [hc] at h1; exact h1.elim
/-- .. some of them -/
theorem lc_filter {own : Bool} {vs : List Nat} {t : Vl → Ev → Option Ev} (C : Dt → Bool) (G : Dt → Dt) : ∀ (xs acc : List Dt), (∀ x ∈ xs, wK (t (x, .c) r) fun r1 => wT c r1 fun b r2 => b = C x ∧ (b = false → wipeE r2 vs = r) ∧ (b = true → wE f r2 fun y r3 => y.1 = G x ∧ (own = true → zfl y = true) ∧ wipeE r3 vs = r)) → lcL vs t c f own xs r acc = .ok (acc ++ (xs.filter C).map G) r
  | [], acc, _ => by simp [lcL]
  | x :: xs, acc, h => by
    have h1 := h x List.mem_cons_self
    unfold wK at h1
    simp only [lcL]
    cases ht : t (x, .c) r with
    | none => rw [ht] at h1; exact h1.elim
    | some r1 =>
      rw [ht] at h1
      simp only at h1 ⊢
      unfold wT at h1
      cases hc : c r1 with
      | ok b r2 =>
        rw [hc] at h1
        obtain ⟨h2, h3, h4⟩ := h1
        cases b with
        | false =>
          simp only
          rw [h3 rfl, lc_filter C G xs acc fun z hz => h z (List.mem_cons_of_mem _ hz)]
          simp [← h2]
        | true =>
          simp only
          have h4 := h4 rfl
          unfold wE at h4
          cases hf : f r2 with
          | ok y r3 =>
            rw [hf] at h4
            obtain ⟨y, my⟩ := y
            obtain ⟨e1, e2, e3⟩ := h4
            simp only at e1 ⊢
            subst e1
            rw [e3, if_neg (by cases own <;> simp_all), lc_filter C G xs _ fun z hz => h z (List.mem_cons_of_mem _ hz)]
            simp [← h2]
          | ex _ _ _ => rw [hf] at h4; exact h4.elim
          | no => rw [hf] at h4; exact h4.elim
      | ex _ _ _ => rw [hc] at h1; exact h1.elim
      | no => rw [hc] at h1; exact h1.elim
@[simp] theorem wFn_mk {xs : List Vl} {QF : Vl → Vl → Prop} : wFn (mkFn false n s) xs QF = wS s (xs.map some ++ List.replicate (n - xs.length) none) (fun _ => QF (.n, .c) (.n, .c)) (fun x _ => QF x (.n, .c)) (fun _ => False) (fun _ => False) := by
  unfold wFn wS
  simp only [mkFn]
  cases s (xs.map some ++ List.replicate (n - xs.length) none) <;> rfl
@[simp] theorem wFn_mkI {xs : List Vl} {QF : Vl → Vl → Prop} : wFn (mkFn true n s) xs QF = wS s (xs.map some ++ List.replicate (n - xs.length) none) (fun r => wG r[0]? fun z mz => QF (.n, .c) (z, mz)) (fun x r => wG r[0]? fun z mz => QF x (z, mz)) (fun _ => False) (fun _ => False) := by
  unfold wFn wS
  simp only [mkFn]
  cases s (xs.map some ++ List.replicate (n - xs.length) none) with
  | rt x r =>
    simp only [fin]
    cases r[0]? with
    | none => rfl
    | some o => cases o <;> rfl
  | nx r =>
    simp only [fin]
    cases r[0]? with
    | none => rfl
    | some o => cases o <;> rfl
  | ex c fs r =>
    simp only [finX]
    cases r[0]? with
    | none => rfl
    | some o => cases o <;> rfl
  | _ => rfl
theorem wFn_ex {xs : List Vl} {QF : Vl → Vl → Prop} (h : wFn fn xs QF) : ∃ x z, fn xs = .rt x z ∧ QF x z := by
  unfold wFn at h
  cases e : fn xs with
  | rt x z => rw [e] at h; exact ⟨x, z, rfl, h⟩
  | ex _ _ _ => rw [e] at h; exact h.elim
  | no => rw [e] at h; exact h.elim
end
end Y
namespace Y
open PySem L2 PyProof.Rows
/-- an item by its place -/
def wAt (xs : List Dt) (k : Int) (Q : Dt → Prop) : Prop := ∃ y, atI xs k = some y ∧ Q y
def wSt (xs : List Dt) (k : Int) (y : Dt) (Q : List Dt → Prop) : Prop := ∃ j, ixN xs.length k = some j ∧ Q (xs.set j y)
theorem ixN_succ {n : Nat} {k : Int} (h : 0 ≤ k) : ixN (n + 1) (k + 1) = (ixN n k).map (· + 1) := by
  unfold ixN
  rw [if_pos (by omega), if_pos h]
  by_cases q : k < n
  · rw [if_pos (by omega), if_pos q]
    simp only [Option.map_some]
    rw [Int.toNat_add h (by omega)]
    rfl
  · rw [if_neg (by omega), if_neg q]; rfl
theorem wAt_succ {x : Dt} {xs : List Dt} {k : Int} {Q : Dt → Prop} (h : 0 ≤ k) : wAt (x :: xs) (k + 1) Q = wAt xs k Q := by
  unfold wAt atI
  rw [List.length_cons, ixN_succ h]
  cases ixN xs.length k <;> simp
theorem wSt_succ {x y : Dt} {xs : List Dt} {k : Int} {Q : List Dt → Prop} (h : 0 ≤ k) : wSt (x :: xs) (k + 1) y Q = wSt xs k y fun zs => Q (x :: zs) := by
  unfold wSt
  rw [List.length_cons, ixN_succ h]
  cases ixN xs.length k <;> simp
@[simp] theorem wAt_0 {x : Dt} {xs : List Dt} {Q : Dt → Prop} : wAt (x :: xs) 0 Q = Q x := by
  have : atI (x :: xs) 0 = some x := by
    have := atI_nat (x :: xs) 0
    simpa using this
  simp [wAt, this]
@[simp] theorem wSt_0 {x y : Dt} {xs : List Dt} {Q : List Dt → Prop} : wSt (x :: xs) 0 y Q = Q (y :: xs) := by
  have : ixN (x :: xs).length 0 = some 0 := by
    have := ixN_nat (n := (x :: xs).length) (k := 0) (by simp)
    simpa using this
  simp only [wSt, this]
  simp
@[simp] theorem wAt_1 {x : Dt} {xs : List Dt} {Q : Dt → Prop} : wAt (x :: xs) 1 Q = wAt xs 0 Q := wAt_succ (k := 0) (by decide)
@[simp] theorem wSt_1 {x y : Dt} {xs : List Dt} {Q : List Dt → Prop} : wSt (x :: xs) 1 y Q = wSt xs 0 y fun zs => Q (x :: zs) := wSt_succ (k := 0) (by decide)
@[simp] theorem wAt_2 {x : Dt} {xs : List Dt} {Q : Dt → Prop} : wAt (x :: xs) 2 Q = wAt xs 1 Q := wAt_succ (k := 1) (by decide)
@[simp] theorem wSt_2 {x y : Dt} {xs : List Dt} {Q : List Dt → Prop} : wSt (x :: xs) 2 y Q = wSt xs 1 y fun zs => Q (x :: zs) := wSt_succ (k := 1) (by decide)
@[simp] theorem wAt_3 {x : Dt} {xs : List Dt} {Q : Dt → Prop} : wAt (x :: xs) 3 Q = wAt xs 2 Q := wAt_succ (k := 2) (by decide)
@[simp] theorem wSt_3 {x y : Dt} {xs : List Dt} {Q : List Dt → Prop} : wSt (x :: xs) 3 y Q = wSt xs 2 y fun zs => Q (x :: zs) := wSt_succ (k := 2) (by decide)
@[simp] theorem wAt_4 {x : Dt} {xs : List Dt} {Q : Dt → Prop} : wAt (x :: xs) 4 Q = wAt xs 3 Q := wAt_succ (k := 3) (by decide)
@[simp] theorem wSt_4 {x y : Dt} {xs : List Dt} {Q : List Dt → Prop} : wSt (x :: xs) 4 y Q = wSt xs 3 y fun zs => Q (x :: zs) := wSt_succ (k := 3) (by decide)
@[simp] theorem wAt_5 {x : Dt} {xs : List Dt} {Q : Dt → Prop} : wAt (x :: xs) 5 Q = wAt xs 4 Q := wAt_succ (k := 4) (by decide)
@[simp] theorem wSt_5 {x y : Dt} {xs : List Dt} {Q : List Dt → Prop} : wSt (x :: xs) 5 y Q = wSt xs 4 y fun zs => Q (x :: zs) := wSt_succ (k := 4) (by decide)
@[simp] theorem wAt_6 {x : Dt} {xs : List Dt} {Q : Dt → Prop} : wAt (x :: xs) 6 Q = wAt xs 5 Q := wAt_succ (k := 5) (by decide)
@[simp] theorem wSt_6 {x y : Dt} {xs : List Dt} {Q : List Dt → Prop} : wSt (x :: xs) 6 y Q = wSt xs 5 y fun zs => Q (x :: zs) := wSt_succ (k := 5) (by decide)
@[simp] theorem wAt_7 {x : Dt} {xs : List Dt} {Q : Dt → Prop} : wAt (x :: xs) 7 Q = wAt xs 6 Q := wAt_succ (k := 6) (by decide)
@[simp] theorem wSt_7 {x y : Dt} {xs : List Dt} {Q : List Dt → Prop} : wSt (x :: xs) 7 y Q = wSt xs 6 y fun zs => Q (x :: zs) := wSt_succ (k := 6) (by decide)
@[simp] theorem isT_n_list : isT "list" .n = false := by simp [isT, tyN]
@[simp] theorem isT_b_list {p : Bool} : isT "list" (.b p) = false := by simp [isT, tyN]
@[simp] theorem isT_i_list {a : Int} : isT "list" (.i a) = false := by simp [isT, tyN]
@[simp] theorem isT_s_list {z : Str} : isT "list" (.s z) = false := by simp [isT, tyN]
@[simp] theorem isT_t_list {xs : List Dt} : isT "list" (.t xs) = false := by simp [isT, tyN]
@[simp] theorem isT_l_list {xs : List Dt} : isT "list" (.l xs) = true := by simp [isT, tyN]
@[simp] theorem isT_z_list {xs : List Dt} : isT "list" (.z xs) = true := by simp [isT, tyN]
@[simp] theorem isT_n_tuple : isT "tuple" .n = false := by simp [isT, tyN]
@[simp] theorem isT_b_tuple {p : Bool} : isT "tuple" (.b p) = false := by simp [isT, tyN]
@[simp] theorem isT_i_tuple {a : Int} : isT "tuple" (.i a) = false := by simp [isT, tyN]
@[simp] theorem isT_s_tuple {z : Str} : isT "tuple" (.s z) = false := by simp [isT, tyN]
@[simp] theorem isT_t_tuple {xs : List Dt} : isT "tuple" (.t xs) = true := by simp [isT, tyN]
@[simp] theorem isT_l_tuple {xs : List Dt} : isT "tuple" (.l xs) = false := by simp [isT, tyN]
@[simp] theorem isT_z_tuple {xs : List Dt} : isT "tuple" (.z xs) = false := by simp [isT, tyN]
@[simp] theorem isT_n_str : isT "str" .n = false := by simp [isT, tyN]
@[simp] theorem isT_b_str {p : Bool} : isT "str" (.b p) = false := by simp [isT, tyN]
@[simp] theorem isT_i_str {a : Int} : isT "str" (.i a) = false := by simp [isT, tyN]
@[simp] theorem isT_s_str {z : Str} : isT "str" (.s z) = true := by simp [isT, tyN]
@[simp] theorem isT_t_str {xs : List Dt} : isT "str" (.t xs) = false := by simp [isT, tyN]
@[simp] theorem isT_l_str {xs : List Dt} : isT "str" (.l xs) = false := by simp [isT, tyN]
@[simp] theorem isT_z_str {xs : List Dt} : isT "str" (.z xs) = false := by simp [isT, tyN]
@[simp] theorem isT_n_bool : isT "bool" .n = false := by simp [isT, tyN]
@[simp] theorem isT_b_bool {p : Bool} : isT "bool" (.b p) = true := by simp [isT, tyN]
@[simp] theorem isT_i_bool {a : Int} : isT "bool" (.i a) = false := by simp [isT, tyN]
@[simp] theorem isT_s_bool {z : Str} : isT "bool" (.s z) = false := by simp [isT, tyN]
@[simp] theorem isT_t_bool {xs : List Dt} : isT "bool" (.t xs) = false := by simp [isT, tyN]
@[simp] theorem isT_l_bool {xs : List Dt} : isT "bool" (.l xs) = false := by simp [isT, tyN]
@[simp] theorem isT_z_bool {xs : List Dt} : isT "bool" (.z xs) = false := by simp [isT, tyN]
@[simp] theorem isT_n_int : isT "int" .n = false := by simp [isT, tyN]
@[simp] theorem isT_b_int {p : Bool} : isT "int" (.b p) = true := by simp [isT, tyN]
@[simp] theorem isT_i_int {a : Int} : isT "int" (.i a) = true := by simp [isT, tyN]
@[simp] theorem isT_s_int {z : Str} : isT "int" (.s z) = false := by simp [isT, tyN]
@[simp] theorem isT_t_int {xs : List Dt} : isT "int" (.t xs) = false := by simp [isT, tyN]
@[simp] theorem isT_l_int {xs : List Dt} : isT "int" (.l xs) = false := by simp [isT, tyN]
@[simp] theorem isT_z_int {xs : List Dt} : isT "int" (.z xs) = false := by simp [isT, tyN]
@[simp] theorem isn_n : isn .n = true := id rfl
@[simp] theorem isn_b {p : Bool} : isn (.b p) = false := id rfl
@[simp] theorem isn_i {a : Int} : isn (.i a) = false := id rfl
@[simp] theorem isn_s {z : Str} : isn (.s z) = false := id rfl
@[simp] theorem isn_t {xs : List Dt} : isn (.t xs) = false := id rfl
@[simp] theorem isn_l {xs : List Dt} : isn (.l xs) = false := id rfl
@[simp] theorem isn_z {xs : List Dt} : isn (.z xs) = false := id rfl
theorem shp_li (ns : List Int) : shp (.l (ns.map .i)) = true := by
  have h1 : PyData.canLayAll0 (toPL (ns.map .i)) = true := by
    induction ns with
    | nil => rfl
    | cons n ns ih => simp [toPL, toP, PyData.canLayAll0, PyData.canLay0, ih]
  have h2 : PyData.depthAll (toPL (ns.map .i)) = 0 := by
    clear h1
    induction ns with
    | nil => rfl
    | cons n ns ih => simp [toPL, toP, PyData.depthAll, PyData.depth, ih]
  simp [shp, toP, SeqAt.shaped, PyData.canLay0, PyData.depth, h1, h2]
theorem eqD_li : ∀ (ns ms : List Int), eqD (.l (ns.map .i)) (.l (ms.map .i)) = decide (ns = ms) := by
  have go : ∀ ns ms : List Int, PyData.eqvAll (toPL (ns.map .i)) (toPL (ms.map .i)) = decide (ns = ms) := by
    intro ns
    induction ns with
    | nil => intro ms; cases ms <;> simp [toPL, PyData.eqvAll]
    | cons n ns ih =>
      intro ms
      cases ms with
      | nil => simp [toPL, PyData.eqvAll]
      | cons k ms =>
        simp only [List.map_cons, toPL, toP, PyData.eqvAll, PyData.eqv, ih, beq_dec, List.cons.injEq]
        by_cases h : n = k <;> simp [h]
  intro ns ms
  simp only [eqD, toP, PyData.eqv, go]
section
variable {a b k : Int} {x y : Dt} {xs ys : List Dt} {Q : Dt → Md → Prop} {QL : List Dt → Prop} {m : Md} {p q : Bool}
@[simp] theorem wO_add : wO (fAdd [.i a, .i b]) Q = Q (.i (a + b)) .c := id rfl
theorem wL_if {c : Prop} [Decidable c] {v : List Dt} : wL (if c then some v else none) QL = (c ∧ QL v) := by by_cases h : c <;> simp [h, wL]
theorem wO_if {c : Prop} [Decidable c] {v : Vl} : wO (if c then some v else none) Q = (c ∧ Q v.1 v.2) := by by_cases h : c <;> simp [h, wO]
@[simp] theorem wO_addL : wO (fAdd [.l xs, .l ys]) Q = (xs.length + ys.length ≤ LIM ∧ Q (.l (xs ++ ys)) .t) := by
  simp only [fAdd, fII, fCatL, fCatT, fCatS, Option.none_or]
  by_cases h : xs.length + ys.length ≤ LIM <;> simp [h]
@[simp] theorem wO_addT : wO (fAdd [.t xs, .t ys]) Q = (xs.length + ys.length ≤ LIM ∧ Q (.t (xs ++ ys)) .c) := by
  simp only [fAdd, fII, fCatL, fCatT, fCatS, Option.none_or]
  by_cases h : xs.length + ys.length ≤ LIM <;> simp [h]
@[simp] theorem wO_sub : wO (fSub [.i a, .i b]) Q = Q (.i (a - b)) .c := id rfl
@[simp] theorem wO_neg : wO (fNeg [.i a]) Q = Q (.i (-a)) .c := id rfl
@[simp] theorem wO_mul : wO (fMul [.i a, .i b]) Q = (cMul a b = true ∧ Q (.i (a * b)) .c) := by
  simp only [fMul, fMulI, fIC, fRepL, fRepT, Option.or_none]
  by_cases h : cMul a b = true <;> simp [h]
@[simp] theorem wO_mulL : wO (fMul [.l xs, .i k]) Q = ((k ≤ 1000000 ∧ -1000000 ≤ k ∧ xs.length * k.toNat ≤ LIM) ∧ Q (.l (List.replicate k.toNat xs).flatten) .t) := by
  simp only [fMul, fMulI, fIC, fRepL, fRepT, Option.none_or, Option.or_none]
  exact wO_if
@[simp] theorem wO_mod : wO (fMod [.i a, .i b]) Q = (0 < b ∧ Q (.i (a % b)) .c) := by
  simp only [fMod, fIC]
  by_cases h : 0 < b <;> simp [h]
@[simp] theorem wO_div : wO (fDiv [.i a, .i b]) Q = ((0 < b ∧ b.natAbs.log2 < 9000) ∧ Q (.i (a / b)) .c) := by
  simp only [fDiv, fIC]
  rw [wO_if]
  simp
theorem log_ok {b : Int} (h0 : 0 < b) (h2 : b < 2 ^ 64) : b.natAbs.log2 < 9000 := by
  have h3 : b.natAbs < 2 ^ 64 := by omega
  by_cases h0 : b.natAbs = 0
  · rw [h0]; decide
  · have := (Nat.log2_lt h0).mpr h3
    omega
@[simp] theorem wO_pow : wO (fPow [.i a, .i b]) Q = ((0 ≤ b ∧ b ≤ 1000000 ∧ a.natAbs < 2 ^ 64) ∧ Q (.i (a ^ b.toNat)) .c) := by
  simp only [fPow, fIC]
  by_cases h : 0 ≤ b ∧ b ≤ 1000000 ∧ a.natAbs < 2 ^ 64
  · simp [h]
  · simp only [h, false_and]
    rw [if_neg (by simpa [and_assoc] using h)]
    rfl
@[simp] theorem wO_lt : wO (fLt [.i a, .i b]) Q = Q (.b (decide (a < b))) .c := id rfl
@[simp] theorem wO_le : wO (fLe [.i a, .i b]) Q = Q (.b (decide (a ≤ b))) .c := id rfl
@[simp] theorem wO_gt : wO (fGt [.i a, .i b]) Q = Q (.b (decide (b < a))) .c := id rfl
@[simp] theorem wO_ge : wO (fGe [.i a, .i b]) Q = Q (.b (decide (b ≤ a))) .c := id rfl
@[simp] theorem wO_eqI : wO (fEq [.i a, .i b]) Q = Q (.b (decide (a = b))) .c := by rw [fEq_i]; rfl
@[simp] theorem wO_neI : wO (fNe [.i a, .i b]) Q = Q (.b (!decide (a = b))) .c := by rw [fNe_i]; rfl
@[simp] theorem wO_eqB : wO (fEq [.b p, .b q]) Q = Q (.b (decide (p = q))) .c := by rw [fEq_b]; rfl
@[simp] theorem wO_neB : wO (fNe [.b p, .b q]) Q = Q (.b (!decide (p = q))) .c := by rw [fNe_b]; rfl
@[simp] theorem wO_eqS {z z' : Str} : wO (fEq [.s z, .s z']) Q = Q (.b (decide (z = z'))) .c := id rfl
@[simp] theorem wO_neS {z z' : Str} : wO (fNe [.s z, .s z']) Q = Q (.b (!decide (z = z'))) .c := id rfl
theorem wO_eq (hx : ∀ z, x ≠ .s z) : wO (fEq [x, y]) Q = ((shp x = true ∧ shp y = true) ∧ Q (.b (eqD x y)) .c) := by
  unfold fEq
  split
  · rename_i a b h
    cases h
    exact absurd rfl (hx a)
  · rename_i a b h0 h
    cases h
    by_cases h : shp x = true ∧ shp y = true
    · simp [h]
    · rw [if_neg (by simpa using h)]; simp [h]
  · rename_i h1 h2
    exact absurd rfl (h2 x y)
theorem wO_ne (hx : ∀ z, x ≠ .s z) : wO (fNe [x, y]) Q = ((shp x = true ∧ shp y = true) ∧ Q (.b (!eqD x y)) .c) := by
  unfold fNe
  split
  · rename_i a b h
    cases h
    exact absurd rfl (hx a)
  · rename_i a b h0 h
    cases h
    by_cases h : shp x = true ∧ shp y = true
    · simp [h]
    · rw [if_neg (by simpa using h)]; simp [h]
  · rename_i h1 h2
    exact absurd rfl (h2 x y)
theorem wO_eqL : wO (fEq [.l xs, y]) Q = ((shp (.l xs) = true ∧ shp y = true) ∧ Q (.b (eqD (.l xs) y)) .c) := wO_eq fun z h => by cases h
theorem wO_neL : wO (fNe [.l xs, y]) Q = ((shp (.l xs) = true ∧ shp y = true) ∧ Q (.b (!eqD (.l xs) y)) .c) := wO_ne fun z h => by cases h
@[simp] theorem wO_ixL : wO (fIx [.l xs, .i k]) Q = wAt xs k fun y => Q y .c := by
  unfold wAt
  rw [fIx_l]
  cases atI xs k <;> simp
@[simp] theorem wO_ixT : wO (fIx [.t xs, .i k]) Q = wAt xs k fun y => Q y .c := by
  unfold wAt
  rw [fIx_t]
  cases atI xs k <;> simp
@[simp] theorem wO_ixZ : wO (fIx [.z xs, .i k]) Q = wAt xs k fun y => Q y .c := by
  unfold wAt
  rw [fIx_z]
  cases atI xs k <;> simp
@[simp] theorem wO_lst : wO (fLst xs) Q = (xs.length ≤ LIM ∧ Q (.l xs) .t) := by
  simp only [fLst]; exact wO_if
@[simp] theorem wO_tup : wO (fTup xs) Q = (xs.length ≤ LIM ∧ Q (.t xs) .c) := by
  simp only [fTup]; exact wO_if
@[simp] theorem wO_lenL : wO (fLen [.l xs]) Q = Q (.i xs.length) .c := id rfl
@[simp] theorem wO_lenT : wO (fLen [.t xs]) Q = Q (.i xs.length) .c := id rfl
@[simp] theorem wO_lenZ : wO (fLen [.z xs]) Q = Q (.i xs.length) .c := id rfl
@[simp] theorem wO_listL : wO (fList [.l xs]) Q = Q (.l xs) .t := id rfl
@[simp] theorem wO_listT : wO (fList [.t xs]) Q = Q (.l xs) .t := id rfl
@[simp] theorem wO_listZ : wO (fList [.z xs]) Q = Q (.l xs) .t := id rfl
@[simp] theorem wO_tupL : wO (fTuple [.l xs]) Q = Q (.t xs) .c := id rfl
@[simp] theorem wO_tupT : wO (fTuple [.t xs]) Q = Q (.t xs) .c := id rfl
@[simp] theorem wO_abs : wO (fAbs [.i a]) Q = Q (.i (if a < 0 then -a else a)) .c := id rfl
@[simp] theorem wO_max2 : wO (fMax2 [.i a, .i b]) Q = Q (.i (if b > a then b else a)) .c := id rfl
@[simp] theorem wO_min2 : wO (fMin2 [.i a, .i b]) Q = Q (.i (if b < a then b else a)) .c := id rfl
@[simp] theorem wO_intI : wO (fInt [.i a]) Q = Q (.i a) .c := id rfl
@[simp] theorem wO_intB : wO (fInt [.b p]) Q = Q (.i (if p then 1 else 0)) .c := id rfl
@[simp] theorem wO_sum {ns : List Int} : wO (fSum [.l (ns.map .i)]) Q = Q (.i ns.sum) .c := by simp [fSum, ints_map]
@[simp] theorem wO_all {ns : List Bool} : wO (fAll [.l (ns.map .b)]) Q = Q (.b (ns.all id)) .c := by simp [fAll, bls_map]
@[simp] theorem wO_any {ns : List Bool} : wO (fAny [.l (ns.map .b)]) Q = Q (.b (ns.any id)) .c := by simp [fAny, bls_map]
@[simp] theorem isP_n : isP .n = true := id rfl
@[simp] theorem isP_b : isP (.b p) = true := id rfl
@[simp] theorem isP_i : isP (.i a) = true := id rfl
@[simp] theorem isP_s {z : Str} : isP (.s z) = true := id rfl
@[simp] theorem isP_t : isP (.t xs) = true := id rfl
@[simp] theorem isP_l : isP (.l xs) = true := id rfl
@[simp] theorem isP_z : isP (.z xs) = true := id rfl
@[simp] theorem wO_isi {Ts : List String} : wO (fIsi Ts [x]) Q = (isP x = true ∧ Q (.b (Ts.any (isT · x))) .c) := by
  by_cases h : isP x = true
  · simp [fIsi, h]
  · simp [fIsi, h]
@[simp] theorem wO_isN : wO (fIs [x, .n]) Q = Q (.b (isn x)) .c := id rfl
@[simp] theorem wO_notN : wO (fNot [x, .n]) Q = Q (.b (!isn x)) .c := id rfl
@[simp] theorem wO_revL : wO (fRev [.l xs]) Q = Q (.l xs.reverse) .t := id rfl
@[simp] theorem wL_rng1 : wL (sRng1 [.i k]) QL = ((-(2 ^ 60) ≤ k ∧ k ≤ LIM) ∧ QL (rngD 0 k.toNat)) := by
  simp only [sRng1]; exact wL_if
@[simp] theorem wL_rng2 : wL (sRng2 [.i a, .i b]) QL = ((-(2 ^ 60) ≤ a ∧ a ≤ 2 ^ 60 ∧ -(2 ^ 60) ≤ b ∧ b ≤ 2 ^ 60 ∧ b - a ≤ LIM) ∧ QL (rngD a (b - a).toNat)) := by
  simp only [sRng2]; exact wL_if
@[simp] theorem wL_seqL : wL (sSq [.l xs]) QL = QL xs := id rfl
@[simp] theorem wL_seqT : wL (sSq [.t xs]) QL = QL xs := id rfl
@[simp] theorem wL_seqZ : wL (sSq [.z xs]) QL = QL xs := id rfl
@[simp] theorem wL_enumL : wL (sEnum [.l xs]) QL = QL (enumD 0 xs) := id rfl
@[simp] theorem wL_zipL : wL (sZip [.l xs, .l ys]) QL = QL (zipD xs ys) := id rfl
@[simp] theorem wL_zipT : wL (sZip [.t xs, .t ys]) QL = QL (zipD xs ys) := id rfl
@[simp] theorem wO_apT {y : Vl} : wO (apL (.l xs, .t) y) Q = (xs.length < LIM ∧ Q (.l (xs ++ [y.1])) .t) := by
  simp only [apL]; exact wO_if
@[simp] theorem wO_apA {y : Vl} : wO (apL (.l xs, .a) y) Q = ((xs.length < LIM ∧ zfl y = true) ∧ Q (.l (xs ++ [y.1])) .a) := by
  simp only [apL]; exact wO_if
@[simp] theorem wO_stT {y : Vl} : wO (stL (.l xs, .t) k y) Q = wSt xs k y.1 fun zs => Q (.l zs) .t := by
  unfold wSt
  simp only [stL]
  cases ixN xs.length k <;> simp
@[simp] theorem wE_Sl {A : Am} {r : Ev} {lo hi : Option (Ev → Ou Vl)} {Q : Vl → Ev → Prop} : wE (mSl A lo hi) r Q = wA [A] r fun ys r1 => wP lo r1 fun l r2 => wP hi r2 fun h r3 => wL (look r3 ys) fun xs => match xs with
    | [x] => wO (fSl l h x) fun y m => wZ y ys r3 (Q (y, m))
    | _ => False := by
  unfold wE wA wZ
  simp only [mSl]
  cases evA [A] r with
  | ok ys r1 =>
    simp only
    unfold wP
    cases evP lo r1 with
    | ok l r2 =>
      simp only
      cases evP hi r2 with
      | ok u r3 =>
        simp only
        cases look r3 ys with
        | none => rfl
        | some xs =>
          simp only [wL_some]
          match xs with
          | [] => rfl
          | [x] =>
            simp only
            cases fSl l u x with
            | none => rfl
            | some y => rfl
          | _ :: _ :: _ => rfl
      | ex _ _ _ => rfl
      | no => rfl
    | ex _ _ _ => rfl
    | no => rfl
  | ex _ _ _ => rfl
  | no => rfl
@[simp] theorem wO_slL {l h : Option Int} : wO (fSl l h (.l xs)) Q = Q (.l (cutD xs l h)) .t := id rfl
@[simp] theorem wO_slZ {l h : Option Int} : wO (fSl l h (.z xs)) Q = Q (.l (cutD xs l h)) .t := id rfl
@[simp] theorem wO_slT {l h : Option Int} : wO (fSl l h (.t xs)) Q = Q (.t (cutD xs l h)) .c := id rfl
theorem cMul_01 {p : Prop} [Decidable p] : cMul a (if p then 1 else 0) = true := by
  split
  · exact cMul_r (by omega) (by omega)
  · exact cMul_r (by omega) (by omega)
theorem atI_i {cs : List Int} (h0 : 0 ≤ k) (h : k < cs.length) : ∃ c, atI (cs.map Dt.i) k = some (Dt.i c) ∧ cs[k.toNat]? = some c := by
  obtain ⟨n, rfl⟩ := Int.eq_ofNat_of_zero_le h0
  have hn : n < cs.length := by omega
  refine ⟨cs[n], ?_, by simp [hn]⟩
  rw [atI_nat]
  simp [hn]
theorem wAt_i {cs : List Int} {Q : Dt → Prop} (h0 : 0 ≤ k) (h : k < cs.length) (q : ∀ c, cs[k.toNat]? = some c → Q (Dt.i c)) : wAt (cs.map Dt.i) k Q := by
  obtain ⟨c, h1, h2⟩ := atI_i h0 h
  exact ⟨_, h1, q c h2⟩
theorem lim3 {n : Nat} (h : n ≤ 1000) : n ≤ LIM := Nat.le_trans h (by decide)
@[simp] theorem wO_max1 {ns : List Int} : wO (fMax1 [.l ((a :: ns).map .i)]) Q = Q (.i (lmax a ns)) .c := by simp [fMax1, intsL, ints_map]
@[simp] theorem wO_min1 {ns : List Int} : wO (fMin1 [.l ((a :: ns).map .i)]) Q = Q (.i (lmin a ns)) .c := by simp [fMin1, intsL, ints_map]
@[simp] theorem wO_max1T {ns : List Int} : wO (fMax1 [.t ((a :: ns).map .i)]) Q = Q (.i (lmax a ns)) .c := by simp [fMax1, intsL, ints_map]
@[simp] theorem wO_min1T {ns : List Int} : wO (fMin1 [.t ((a :: ns).map .i)]) Q = Q (.i (lmin a ns)) .c := by simp [fMin1, intsL, ints_map]
@[simp] theorem wAt_last {Q : Dt → Prop} : wAt (xs ++ [x]) (-1) Q = Q x := by
  have : atI (xs ++ [x]) (-1) = some x := by
    unfold atI ixN
    rw [if_neg (by decide), if_pos (by rw [List.length_append, List.length_singleton]; omega)]
    simp only [Option.bind_some, List.length_append, List.length_singleton]
    rw [show (-1 + ((xs.length + 1 : Nat) : Int)).toNat = xs.length by omega]
    simp
  simp [wAt, this]
theorem zipD_same : ∀ xs : List Dt, ∀ z ∈ zipD xs xs, ∃ a ∈ xs, z = .t [a, a]
  | [], z, h => by simp [zipD] at h
  | x :: xs, z, h => by
    simp only [zipD, List.mem_cons] at h
    rcases h with h | h
    · exact ⟨x, List.mem_cons_self, h⟩
    · obtain ⟨a, h1, h2⟩ := zipD_same xs z h
      exact ⟨a, List.mem_cons_of_mem _ h1, h2⟩
theorem map_true (zs : List Dt) : zs.map (fun _ => Dt.b true) = (zs.map fun _ => true).map .b := by simp
theorem all_true (zs : List Dt) : (zs.map fun _ => true).all id = true := by simp
theorem mem_rngD {lo : Int} {n : Nat} (h : x ∈ rngD lo n) : ∃ i : Nat, i < n ∧ x = .i (lo + i) := by
  simp only [rngD, List.mem_map, List.mem_range] at h
  obtain ⟨i, h1, h2⟩ := h
  exact ⟨i, h1, h2.symm⟩
theorem sIx_pos {n d : Nat} {j : Int} (h : 0 ≤ j) : HT.sIx n d (some j) = min j.toNat n := by
  obtain ⟨m, rfl⟩ := Int.eq_ofNat_of_zero_le h
  exact HT.sIx_nat n d m
theorem cutD_hi (h : 0 ≤ k) : cutD xs none (some k) = xs.take k.toNat := by
  unfold cutD
  rw [sIx_pos h, HT.sIx_none, List.drop_zero, Nat.sub_zero]
  rcases Nat.le_total k.toNat xs.length with q | q
  · rw [Nat.min_eq_left q]
  · rw [Nat.min_eq_right q, List.take_length, List.take_of_length_le q]
theorem cutD_lo (h : 0 ≤ k) : cutD xs (some k) none = xs.drop k.toNat := by
  unfold cutD
  rw [sIx_pos h, HT.sIx_none]
  rcases Nat.le_total k.toNat xs.length with q | q
  · rw [Nat.min_eq_left q, List.take_of_length_le (by simp)]
  · rw [Nat.min_eq_right q, List.drop_length, List.drop_of_length_le q]; simp
theorem cutD_lh (h : 0 ≤ a) (h2 : 0 ≤ b) : cutD xs (some a) (some b) = (xs.drop a.toNat).take (b.toNat - a.toNat) := by
  unfold cutD
  rw [sIx_pos h, sIx_pos h2]
  rcases Nat.le_total a.toNat xs.length with q | q
  · rw [Nat.min_eq_left q]
    rcases Nat.le_total b.toNat xs.length with p | p
    · rw [Nat.min_eq_left p]
    · rw [Nat.min_eq_right p, List.take_of_length_le (by simp), List.take_of_length_le (by simp; omega)]
  · rw [Nat.min_eq_right q, List.drop_length, List.drop_of_length_le q]; simp
theorem enumD_mem {xs : List Dt} {j : Nat} {z : Dt} (h : (enumD 0 xs)[j]? = some z) : ∃ d, xs[j]? = some d ∧ z = .t [.i j, d] := by
  rw [enumD_at, Option.map_eq_some_iff] at h
  obtain ⟨d, h1, h2⟩ := h
  exact ⟨d, h1, by simpa using h2.symm⟩
theorem wSt_i {cs : List Int} {c : Int} {QD : List Dt → Prop} (h0 : 0 ≤ k) (h : k < cs.length) (q : QD ((cs.set k.toNat c).map Dt.i)) : wSt (cs.map Dt.i) k (.i c) QD := by
  obtain ⟨n, rfl⟩ := Int.eq_ofNat_of_zero_le h0
  refine ⟨n, ixN_nat (by simpa using h), ?_⟩
  have e : (cs.set n c).map Dt.i = (cs.map Dt.i).set n (.i c) := by simp [List.map_set]
  have q : QD ((cs.set n c).map Dt.i) := by simpa using q
  rw [← e]; exact q
end
end Y
namespace Y
open PySem L2 PyProof.Rows
section
variable {f g : Ev → Ou Vl} {s u : Ev → So} {r : Ev} {Q : Vl → Ev → Prop} {Qn Qb Qc : Ev → Prop} {Qr : Vl → Ev → Prop} {i n : Nat} {x y : Dt} {m : Md} {fs : List (Ev → Ou Vl)} {xs ys : List Dt}
@[simp] theorem wE_LstO : wE (mLstO fs) r Q = wH fs r fun xs r1 => (xs.length ≤ LIM ∧ xs.all zfl = true) ∧ Q (.l (xs.map (·.1)), .a) r1 := by
  unfold wE wH
  simp only [mLstO]
  cases evH fs r with
  | ok xs r1 =>
    simp only
    by_cases h : xs.length ≤ LIM ∧ xs.all zfl = true
    · rw [if_pos h]; simp [h]
    · rw [if_neg h]; simp only [h, false_and]
  | ex _ _ _ => rfl
  | no => rfl
def wEx (x : Dt) (m : Md) (y : Dt) (Q : Dt → Prop) : Prop := match x, m, y with
  | .l xs, .t, .l ys => xs.length + ys.length ≤ LIM ∧ Q (.l (xs ++ ys))
  | _, _, _ => False
@[simp] theorem wEx_l {Q : Dt → Prop} : wEx (.l xs) .t (.l ys) Q = (xs.length + ys.length ≤ LIM ∧ Q (.l (xs ++ ys))) := id rfl
@[simp] theorem wS_ext : wS (sExt i f) r Qn Qr Qb Qc = (isL i r = true ∧ wE f r fun y r1 => wG r1[i]? fun x m => wEx x m y.1 fun z => setK r1 i (some (z, .t)) Qn) := by
  unfold wS wE wG setK wEx
  simp only [sExt]
  by_cases h : isL i r = true
  · simp only [h, if_true, true_and, sWith]
    cases f r with
    | ok y r1 =>
      obtain ⟨y, my⟩ := y
      simp only
      cases r1[i]? with
      | none => cases y <;> rfl
      | some o =>
        cases o with
        | none => cases y <;> rfl
        | some x =>
          obtain ⟨x, m⟩ := x
          cases x <;> cases m <;> cases y <;> try rfl
          rename_i xs ys
          by_cases h : xs.length + ys.length ≤ LIM
          · simp [h]
          · simp [h]
    | ex _ _ _ => rfl
    | no => rfl
  · simp [h]
def wPo (x : Dt) (m : Md) (k : Int) (Q : Dt → Dt → Prop) : Prop := match x, m with
  | .l xs, .t => xs.length ≤ LIM ∧ ∃ j y, seqIndex? k xs.length = some j ∧ xs[j]? = some y ∧ Q y (.l (xs.eraseIdx j))
  | _, _ => False
@[simp] theorem wPo_t {k : Int} {Q : Dt → Dt → Prop} : wPo (.l xs) .t k Q = (xs.length ≤ LIM ∧ ∃ j y, seqIndex? k xs.length = some j ∧ xs[j]? = some y ∧ Q y (.l (xs.eraseIdx j))) := id rfl
@[simp] theorem wE_pop : wE (mPop i f) r Q = (isL i r = true ∧ wE f r fun k r1 => match k.1 with
    | .i k => wG r1[i]? fun x m => wPo x m k fun y z => setK r1 i (some (z, .t)) (Q (y, .c))
    | _ => False) := by
  unfold wE wG setK wPo
  simp only [mPop]
  by_cases h : isL i r = true
  · simp only [h, if_true, true_and]
    cases f r with
    | ok k r1 =>
      obtain ⟨k, mk⟩ := k
      cases k with
      | i k =>
        simp only
        cases r1[i]? with
        | none => rfl
        | some o =>
          cases o with
          | none => rfl
          | some x =>
            obtain ⟨x, m⟩ := x
            cases x <;> cases m <;> try rfl
            rename_i xs
            simp only
            by_cases h : xs.length ≤ LIM
            · rw [if_pos h]
              cases hj : seqIndex? k xs.length with
              | none => simp
              | some j =>
                simp only
                cases hy : xs[j]? with
                | none => simp [hy]
                | some y => simp [h, hy]
            · simp [h]
      | _ => rfl
    | ex _ _ _ => rfl
    | no => rfl
  · simp [h]
def wP0 (x : Dt) (m : Md) (Q : Dt → Dt → Prop) : Prop := match x, m with
  | .l xs, .t => ∃ y, xs[xs.length - 1]? = some y ∧ Q y (.l xs.dropLast)
  | _, _ => False
@[simp] theorem wP0_t {Q : Dt → Dt → Prop} : wP0 (.l xs) .t Q = ∃ y, xs[xs.length - 1]? = some y ∧ Q y (.l xs.dropLast) := id rfl
@[simp] theorem wE_pop0 : wE (mPop0 i) r Q = wG r[i]? fun x m => wP0 x m fun y z => setK r i (some (z, .t)) (Q (y, .c)) := by
  unfold wE wG setK wP0
  simp only [mPop0]
  cases r[i]? with
  | none => rfl
  | some o =>
    cases o with
    | none => rfl
    | some x =>
      obtain ⟨x, m⟩ := x
      cases x <;> cases m <;> try rfl
      rename_i xs
      simp only
      cases hy : xs[xs.length - 1]? with
      | none => simp [hy]
      | some y => simp [hy]
/-- indices -/
def wKs : List (Ev → Ou Vl) → Ev → (List Int → Ev → Prop) → Prop
  | [], r, Q => Q [] r
  | f :: fs, r, Q => wKs fs r fun ks r1 => wE f r1 fun k r2 => match k.1 with
    | .i k => Q (ks ++ [k]) r2
    | _ => False
@[simp] theorem wKs_n {Q : List Int → Ev → Prop} : wKs [] r Q = Q [] r := id rfl
@[simp] theorem wKs_c {Q : List Int → Ev → Prop} : wKs (f :: fs) r Q = wKs fs r fun ks r1 => wE f r1 fun k r2 => match k.1 with
    | .i k => Q (ks ++ [k]) r2
    | _ => False := id rfl
theorem wKs_ev : ∀ {fs : List (Ev → Ou Vl)} {r : Ev} {Q : List Int → Ev → Prop}, wKs fs r Q = match evK fs r with
    | some (ks, r1) => Q ks r1
    | none => False
  | [], r, Q => rfl
  | f :: fs, r, Q => by
    simp only [wKs, evK]
    rw [wKs_ev]
    cases evK fs r with
    | none => rfl
    | some p =>
      obtain ⟨ks, r1⟩ := p
      unfold wE
      simp only
      cases f r1 with
      | ok k r2 =>
        obtain ⟨k, mk⟩ := k
        cases k <;> rfl
      | ex _ _ _ => rfl
      | no => rfl
/-- an item and its place -/
def wAj (xs : List Dt) (k : Int) (Q : Nat → Dt → Prop) : Prop := ∃ j x, ixN xs.length k = some j ∧ xs[j]? = some x ∧ Q j x
theorem wAj_nat {k : Nat} {Q : Nat → Dt → Prop} : wAj xs (k : Int) Q = ∃ x, xs[k]? = some x ∧ Q k x := by
  unfold wAj
  by_cases h : k < xs.length
  · rw [ixN_nat h]; simp
  · rw [List.getElem?_eq_none (by omega)]
    unfold ixN
    rw [if_pos (by omega)]
    simp [h]
@[simp] theorem wAj_0 {Q : Nat → Dt → Prop} : wAj (x :: xs) 0 Q = Q 0 x := by
  have := @wAj_nat (x :: xs) 0 Q
  simpa using this
@[simp] theorem wAj_1 {x' : Dt} {Q : Nat → Dt → Prop} : wAj (x' :: x :: xs) 1 Q = Q 1 x := by
  have := @wAj_nat (x' :: x :: xs) 1 Q
  simpa using this
@[simp] theorem wAj_2 {x' x2 : Dt} {Q : Nat → Dt → Prop} : wAj (x' :: x2 :: x :: xs) 2 Q = Q 2 x := by
  have := @wAj_nat (x' :: x2 :: x :: xs) 2 Q
  simpa using this
/-- one more at that path -/
def wUp : Dt → List Int → Dt → (Dt → Prop) → Prop
  | .l xs, [], y, Q => xs.length < LIM ∧ Q (.l (xs ++ [y]))
  | .l xs, k :: ks, y, Q => wAj xs k fun j x => wUp x ks y fun x' => Q (.l (xs.set j x'))
  | _, _, _, _ => False
@[simp] theorem wUp_n {Q : Dt → Prop} : wUp (.l xs) [] y Q = (xs.length < LIM ∧ Q (.l (xs ++ [y]))) := id rfl
@[simp] theorem wUp_c {k : Int} {ks : List Int} {Q : Dt → Prop} : wUp (.l xs) (k :: ks) y Q = wAj xs k fun j x => wUp x ks y fun x' => Q (.l (xs.set j x')) := id rfl
theorem wUp_ev : ∀ {ks : List Int} {x : Dt} {Q : Dt → Prop}, wUp x ks y Q → ∃ ys x', getP x ks = some (.l ys) ∧ ys.length < LIM ∧ apP y x ks = some x' ∧ Q x'
  | [], x, Q, h => by
    cases x with
    | l xs => exact ⟨xs, _, rfl, h.1, by simp [apP, h.1], h.2⟩
    | _ => exact h.elim
  | k :: ks, x, Q, h => by
    cases x with
    | l xs =>
      obtain ⟨j, x1, h1, h2, h3⟩ := h
      obtain ⟨ys, x', g1, g2, g3, g4⟩ := wUp_ev h3
      exact ⟨ys, _, by simp [getP, atI, h1, h2, g1], g2, by simp [apP, h1, h2, g3], g4⟩
    | _ => exact h.elim
theorem wS_apN (h : wG r[i]? fun x0 m => m = .a ∧ setK r i none fun r0 => wKs fs r0 fun ks r1 => wE f r1 fun y r2 => y.1.flat = true ∧ wUp x0 ks y.1 fun x' => setK r2 i (some (x', .a)) Qn) : wS (sApN i fs f) r Qn Qr Qb Qc := by
  unfold wG setK at h
  unfold wS
  simp only [sApN]
  cases hr : r[i]? with
  | none => rw [hr] at h; exact h.elim
  | some o =>
    cases o with
    | none => rw [hr] at h; exact h.elim
    | some x0 =>
      obtain ⟨x0, m0⟩ := x0
      rw [hr] at h
      obtain ⟨rfl, h⟩ := h
      rw [wKs_ev] at h
      simp only
      cases hk : evK fs (r.set i none) with
      | none => rw [hk] at h; exact h.elim
      | some p =>
        obtain ⟨ks, r1⟩ := p
        rw [hk] at h
        simp only at h ⊢
        unfold wE at h
        cases hf : f r1 with
        | ok y r2 =>
          rw [hf] at h
          obtain ⟨y, my⟩ := y
          obtain ⟨h1, h2⟩ := h
          obtain ⟨ys, x', g1, g2, g3, g4⟩ := wUp_ev h2
          simp only [g1, hf, h1, g2, g3, and_self, if_true]
          exact g4
        | ex _ _ _ => rw [hf] at h; exact h.elim
        | no => rw [hf] at h; exact h.elim
def bk : Dt → Nat
  | .t xs => bkL xs
  | .l xs => bkL xs
  | _ => 0
where bkL : List Dt → Nat
  | [] => 0
  | x :: xs => bk x + 1 + bkL xs
def dp : Dt → Nat
  | .t xs => dpL xs + 1
  | .l xs => dpL xs + 1
  | _ => 0
where dpL : List Dt → Nat
  | [] => 0
  | x :: xs => max (dp x) (dpL xs)
end
end Y
namespace Y
open PySem L2 PyProof.Rows
section
variable {f g : Ev → Ou Vl} {r : Ev} {i n : Nat} {a b k : Int} {x y : Dt} {m : Md} {xs ys : List Dt}
def wC2 (xs : List Dt) (Q : Dt → Int → Prop) : Prop := match xs with
  | [x, .i b] => Q x b
  | _ => False
def wC1 (xs : List Dt) (Q : Dt → Prop) : Prop := match xs with
  | [z] => Q z
  | _ => False
@[simp] theorem wC2_i {Q : Dt → Int → Prop} : wC2 [x, .i b] Q = Q x b := id rfl
@[simp] theorem wC1_1 {Q : Dt → Prop} : wC1 [x] Q = Q x := id rfl
@[simp] theorem wE_Ch {p p' : List Dt → Option Vl} {A B C : Am} {Q : Vl → Ev → Prop} : wE (mCh p p' A B C) r Q = wA [A, B] r fun ys r1 => wL (look r1 ys) fun xs => wC2 xs fun x b => wO (p [x, .i b]) fun k _ => match k with
    | .b k => (k = true → wA [C] r1 fun zs r2 => wL (look r2 zs) fun zs => wC1 zs fun z => wO (p' [.i b, z]) fun k _ => match k with
        | .b k => Q (.b k, .c) r2
        | _ => False) ∧ (k = false → Q (.b false, .c) r1)
    | _ => False := by
  unfold wE
  conv => rhs; unfold wA wL wC2
  simp only [mCh]
  cases evA [A, B] r with
  | ok ys r1 =>
    simp only
    cases look r1 ys with
    | none => rfl
    | some xs =>
      simp only
      match xs with
      | [] => rfl
      | [_] => rfl
      | _ :: y :: _ :: _ => cases y <;> rfl
      | [x, .n] => rfl
      | [x, .b _] => rfl
      | [x, .s _] => rfl
      | [x, .t _] => rfl
      | [x, .l _] => rfl
      | [x, .z _] => rfl
      | [x, .m _ _] => rfl
      | [x, .o _ _ _] => rfl
      | [x, .x _ _ _] => rfl
      | [x, .f _] => rfl
      | [x, .k _ _] => rfl
      | [x, .i b] =>
        simp only
        unfold wO
        cases p [x, .i b] with
        | none => rfl
        | some v =>
          obtain ⟨v, mv⟩ := v
          cases v with
          | b k =>
            cases k with
            | false => simp
            | true =>
              simp only [true_implies, Bool.true_eq_false, false_implies, and_true]
              cases evA [C] r1 with
              | ok zs r2 =>
                simp only
                cases look r2 zs with
                | none => rfl
                | some us =>
                  simp only
                  match us with
                  | [] => rfl
                  | _ :: _ :: _ => rfl
                  | [z] =>
                    simp only [wC1_1]
                    cases p' [.i b, z] with
                    | none => rfl
                    | some w =>
                      obtain ⟨w, mw⟩ := w
                      cases w <;> rfl
              | ex _ _ _ => rfl
              | no => rfl
          | _ => rfl
  | ex _ _ _ => rfl
  | no => rfl
theorem cMulL (h1 : -18446744073709551616 < a) (h2 : a < 18446744073709551616) : cMul a b = true := cMul_l (by omega) (by omega)
theorem cMulR (h1 : -18446744073709551616 < b) (h2 : b < 18446744073709551616) : cMul a b = true := cMul_r (by omega) (by omega)
theorem logB (h1 : 0 < b) (h2 : b < 18446744073709551616) : (b.natAbs.log2 < 9000) = True := eq_true (log_ok h1 (by omega))
theorem natB (h1 : -18446744073709551616 < b) (h2 : b < 18446744073709551616) : (b.natAbs < 18446744073709551616) = True := eq_true (by omega)
theorem castN (n : Nat) : ((no_index (OfNat.ofNat n) : Nat) : Int) = OfNat.ofNat n := rfl
theorem castM : ((1000000 : Nat) : Int) = 1000000 := rfl
@[simp] theorem zfl_c : zfl (x, .c) = x.flat := id rfl
@[simp] theorem zfl_lt : zfl (.l xs, .t) = flatL xs := id rfl
@[simp] theorem zfl_a : zfl (x, .a) = true := by simp [zfl]
theorem flat_b (ns : List Bool) : flatL (ns.map .b) = true := by
  induction ns with
  | nil => rfl
  | cons n ns ih => simp [flatL, Dt.flat, ih]
theorem pl_ti {d : Nat} {ns : List Int} (h : ns.length ≤ 1000) : pl (d + 2) (.t (ns.map .i)) = true := by
  simp only [pl, Bool.and_eq_true, decide_eq_true_eq, List.length_map, List.all_eq_true]
  refine ⟨lim3 h, fun x hx => ?_⟩
  obtain ⟨a, _, rfl⟩ := List.mem_map.mp hx
  rfl
theorem pl_t {d : Nat} (hl : xs.length ≤ 1000) (h : ∀ x ∈ xs, pl d x = true) : pl (d + 1) (.t xs) = true := by
  simp only [pl, Bool.and_eq_true, decide_eq_true_eq, List.all_eq_true]
  exact ⟨lim3 hl, h⟩
theorem pl_l {d : Nat} (hl : xs.length ≤ 1000) (h : ∀ x ∈ xs, pl d x = true) : pl (d + 1) (.l xs) = true := by
  simp only [pl, Bool.and_eq_true, decide_eq_true_eq, List.all_eq_true]
  exact ⟨lim3 hl, h⟩
def isrt (ns : List Int) : List Int := ns.mergeSort fun a b => decide (a ≤ b)
theorem isrt_perm (ns : List Int) : (isrt ns).Perm ns := List.mergeSort_perm _ _
theorem isrt_len (ns : List Int) : (isrt ns).length = ns.length := (isrt_perm ns).length_eq
theorem isrt_mem {ns : List Int} : a ∈ isrt ns ↔ a ∈ ns := (isrt_perm ns).mem_iff
theorem isrt_le (ns : List Int) : (isrt ns).Pairwise (· ≤ ·) := by
  have := List.pairwise_mergeSort (le := fun a b : Int => decide (a ≤ b)) (by intro a b c h1 h2; simp at *; omega) (by intro a b; simp; omega) ns
  exact this.imp fun h => by simpa using h
theorem isrt_id {ns : List Int} (h : ns.Pairwise (· ≤ ·)) : isrt ns = ns := List.mergeSort_of_pairwise (h.imp fun h => by simpa using h)
theorem leD_i : leD (.i a) (.i b) = decide (a ≤ b) := congrFun (congrFun (PySem.W.dataLe_int (id : Int → Int)) a) b
theorem sortD_i (ns : List Int) : sortD (ns.map .i) = (isrt ns).map .i := (List.map_mergeSort (f := Dt.i) (s := leD) fun a _ b _ => leD_i.symm).symm
theorem okSort_i {ns : List Int} (h : ns.length ≤ LIM) : okSort (ns.map .i) = true := by
  simp only [okSort, alikeL, sortable, Bool.and_eq_true, List.all_eq_true, List.mem_map, decide_eq_true_eq, Bool.or_eq_true, List.length_map]
  refine ⟨⟨⟨?_, .inr ?_⟩, ?_⟩, h⟩
  · rintro _ ⟨_, ⟨a, _, rfl⟩, rfl⟩ _ ⟨_, ⟨b, _, rfl⟩, rfl⟩
    rfl
  · rintro _ ⟨_, ⟨a, _, rfl⟩, rfl⟩
    rfl
  · rintro _ ⟨a, _, rfl⟩
    show PyData.depth (.int a) ≤ 50
    simp [PyData.depth]
theorem wO_srtL {ns : List Int} {Q : Dt → Md → Prop} (h : ns.length ≤ 1000) : wO (fSorted [.l (ns.map .i)]) Q = Q (.l ((isrt ns).map .i)) .t := by
  simp only [fSorted, okSort_i (lim3 h), sortD_i]; rfl
theorem wO_srtT {ns : List Int} {Q : Dt → Md → Prop} (h : ns.length ≤ 1000) : wO (fSorted [.t (ns.map .i)]) Q = Q (.l ((isrt ns).map .i)) .t := by
  simp only [fSorted, okSort_i (lim3 h), sortD_i]; rfl
/-- pairs of numbers -/
def pr (p : Int × Int) : Dt := .t [.i p.1, .i p.2]
def ple (p q : Int × Int) : Bool := decide (p.1 < q.1 ∨ (p.1 = q.1 ∧ p.2 ≤ q.2))
def psrt (ps : List (Int × Int)) : List (Int × Int) := ps.mergeSort ple
theorem psrt_perm (ps : List (Int × Int)) : (psrt ps).Perm ps := List.mergeSort_perm _ _
theorem psrt_len (ps : List (Int × Int)) : (psrt ps).length = ps.length := (psrt_perm ps).length_eq
theorem leD_p {p q : Int × Int} : leD (pr p) (pr q) = ple p q := congrFun (congrFun (PySem.W.dataLe_ii (fun p : Int × Int => p.1) fun p => p.2) p) q
theorem sortD_p (ps : List (Int × Int)) : sortD (ps.map pr) = (psrt ps).map pr := (List.map_mergeSort (f := pr) (s := leD) fun a _ b _ => leD_p.symm).symm
theorem okSort_p {ps : List (Int × Int)} (h : ps.length ≤ LIM) : okSort (ps.map pr) = true := by
  simp only [okSort, alikeL, sortable, Bool.and_eq_true, List.all_eq_true, List.mem_map, decide_eq_true_eq, Bool.or_eq_true, List.length_map]
  refine ⟨⟨⟨?_, .inl ?_⟩, ?_⟩, h⟩
  · rintro _ ⟨_, ⟨a, _, rfl⟩, rfl⟩ _ ⟨_, ⟨b, _, rfl⟩, rfl⟩
    rfl
  · rintro _ ⟨_, ⟨a, _, rfl⟩, rfl⟩
    rfl
  · rintro _ ⟨a, _, rfl⟩
    show PyData.depth (.tuple [.int a.1, .int a.2]) ≤ 50
    simp [PyData.depth, PyData.depthAll]
theorem wO_srtP {ps : List (Int × Int)} {Q : Dt → Md → Prop} (h : ps.length ≤ LIM) : wO (fSorted [.l (ps.map pr)]) Q = Q (.l ((psrt ps).map pr)) .t := by
  simp only [fSorted, okSort_p h, sortD_p]; rfl
theorem shp_ti (ns : List Int) : shp (.t (ns.map .i)) = true := by
  have := shp_li ns
  unfold shp SeqAt.shaped at this ⊢
  simpa [toP, PyData.canLay0, PyData.depth] using this
theorem any_i {ns : List Int} : (ns.map Dt.i).any (fun z => eqD z (.i a)) = decide (a ∈ ns) := by
  induction ns with
  | nil => rfl
  | cons n ns ih =>
    rw [List.map_cons, List.any_cons, ih, eqD_i]
    by_cases h : n = a
    · subst h; simp
    · simp [h, Ne.symm h]
theorem wO_inL {ns : List Int} {Q : Dt → Md → Prop} : wO (fInA false [.i a, .l (ns.map .i)]) Q = Q (.b (decide (a ∈ ns))) .c := by
  simp only [fInA, shp_i, shp_li, shp_ti, inL, any_i, Bool.and_self, if_true, Bool.false_eq_true, if_false]; rfl
theorem wO_inT {ns : List Int} {Q : Dt → Md → Prop} : wO (fInA false [.i a, .t (ns.map .i)]) Q = Q (.b (decide (a ∈ ns))) .c := by
  simp only [fInA, shp_i, shp_li, shp_ti, inL, any_i, Bool.and_self, if_true, Bool.false_eq_true, if_false]; rfl
theorem wO_eqLi {ns ms : List Int} {Q : Dt → Md → Prop} : wO (fEq [.l (ns.map .i), .l (ms.map .i)]) Q = Q (.b (decide (ns = ms))) .c := by
  rw [wO_eqL]; simp [shp_li, eqD_li]
theorem wO_neLi {ns ms : List Int} {Q : Dt → Md → Prop} : wO (fNe [.l (ns.map .i), .l (ms.map .i)]) Q = Q (.b (!decide (ns = ms))) .c := by
  rw [wO_neL]; simp [shp_li, eqD_li]
theorem wO_eqL0 {ns : List Int} {Q : Dt → Md → Prop} : wO (fEq [.l (ns.map .i), .l []]) Q = Q (.b (decide (ns = []))) .c := wO_eqLi (ms := [])
theorem wO_neL0 {ns : List Int} {Q : Dt → Md → Prop} : wO (fNe [.l (ns.map .i), .l []]) Q = Q (.b (!decide (ns = []))) .c := wO_neLi (ms := [])
theorem wAt_P {P Q : Dt → Prop} (h0 : 0 ≤ k) (h1 : k < xs.length) (hp : ∀ y ∈ xs, P y) (q : ∀ y, P y → Q y) : wAt xs k Q := by
  obtain ⟨n, rfl⟩ := Int.eq_ofNat_of_zero_le h0
  have hn : n < xs.length := by omega
  exact ⟨xs[n], by rw [Y.atI_nat]; simp [hn], q _ (hp _ (List.getElem_mem hn))⟩
/-- .. of numbers of that kind -/
theorem wAt_I {P : Int → Prop} {Q : Dt → Prop} {ns : List Int} (h0 : 0 ≤ k) (h1 : k < ns.length) (hp : ∀ y ∈ ns, P y) (q : ∀ y, P y → Q (.i y)) : wAt (ns.map .i) k Q :=
  wAt_i h0 h1 fun c hc => q c (hp c (List.mem_of_getElem? hc))
/-- comprehensions over rows of numbers; the state stays -/
theorem lc_fI {own : Bool} {vs : List Nat} {t : Vl → Ev → Option Ev} {c : Ev → Ou Bool} {ns : List Int} (p : Int → Bool) (G : Int → Dt) (h : ∀ a ∈ ns, wK (t (.i a, .c) r) fun r1 => wT c r1 fun b r2 => b = p a ∧ (b = false → wipeE r2 vs = r) ∧ (b = true → wE f r2 fun y r3 => y.1 = G a ∧ (own = true → zfl y = true) ∧ wipeE r3 vs = r)) :
    lcL vs t c f own (ns.map .i) r [] = .ok ((ns.filter p).map G) r := by
  have := lc_filter (vs := vs) (t := t) (c := c) (f := f) (own := own) (r := r) (fun x => match x with | .i w => p w | _ => false) (fun x => match x with | .i w => G w | _ => x) (ns.map .i) [] (fun x hx => by
    obtain ⟨a, ha, rfl⟩ := List.mem_map.mp hx
    exact h a ha)
  rw [this, List.nil_append, List.filter_map, List.map_map]
  rfl
theorem lc_mI {own : Bool} {vs : List Nat} {t : Vl → Ev → Option Ev} {c : Ev → Ou Bool} {ns : List Int} (G : Int → Dt) (h : ∀ a ∈ ns, wK (t (.i a, .c) r) fun r1 => wT c r1 fun b r2 => b = true ∧ wE f r2 fun y r3 => y.1 = G a ∧ (own = true → zfl y = true) ∧ wipeE r3 vs = r) :
    lcL vs t c f own (ns.map .i) r [] = .ok (ns.map G) r := by
  have := lc_map (vs := vs) (t := t) (c := c) (f := f) (own := own) (r := r) (fun x => match x with | .i w => G w | _ => x) (ns.map .i) [] (fun x hx => by
    obtain ⟨a, ha, rfl⟩ := List.mem_map.mp hx
    exact h a ha)
  rw [this, List.nil_append, List.map_map]
  rfl
/-- a comprehension whose state goes on -/
theorem lc_inv {own : Bool} {vs : List Nat} {t : Vl → Ev → Option Ev} {c : Ev → Ou Bool} {Q : List Dt → Ev → Prop} (P : Nat → Ev → List Dt → Prop) (h0 : P 0 r [])
    (hs : ∀ i x r acc, xs[i]? = some x → P i r acc → wK (t (x, .c) r) fun r1 => wT c r1 fun b r2 => (b = false → P (i + 1) (wipeE r2 vs) acc) ∧ (b = true → wE f r2 fun y r3 => (own = true → zfl y = true) ∧ P (i + 1) (wipeE r3 vs) (acc ++ [y.1])))
    (hq : ∀ ys r2, P xs.length r2 ys → Q ys r2) : ∃ ys r2, lcL vs t c f own xs r [] = .ok ys r2 ∧ Q ys r2 := by
  have go : ∀ (zs : List Dt) (k : Nat) (r : Ev) (acc : List Dt), (∀ i, zs[i]? = xs[k + i]?) → k + zs.length = xs.length → P k r acc → ∃ ys r2, lcL vs t c f own zs r acc = .ok ys r2 ∧ Q ys r2 := by
    intro zs
    induction zs with
    | nil =>
      intro k r acc _ hk hp
      have : k = xs.length := by simpa using hk
      subst this
      exact ⟨acc, r, rfl, hq _ _ hp⟩
    | cons z zs ih =>
      intro k r acc hz hk hp
      have h1 := hs k z r acc (by have := hz 0; simpa using this.symm) hp
      have nx : ∀ r3 acc3, P (k + 1) r3 acc3 → ∃ ys r2, lcL vs t c f own zs r3 acc3 = .ok ys r2 ∧ Q ys r2 := fun r3 acc3 h3 => ih (k + 1) r3 acc3 (fun i => by
        have := hz (i + 1)
        rw [show k + (i + 1) = k + 1 + i by omega] at this
        simpa using this) (by simp at hk; omega) h3
      unfold wK at h1
      simp only [lcL]
      cases ht : t (z, .c) r with
      | none => rw [ht] at h1; exact h1.elim
      | some r1 =>
        rw [ht] at h1
        simp only at h1 ⊢
        unfold wT at h1
        cases hc : c r1 with
        | ok b r2 =>
          rw [hc] at h1
          obtain ⟨h2, h3⟩ := h1
          cases b with
          | false => exact nx _ _ (h2 rfl)
          | true =>
            have h3 := h3 rfl
            unfold wE at h3
            simp only
            cases hf : f r2 with
            | ok y r3 =>
              rw [hf] at h3
              obtain ⟨y, my⟩ := y
              obtain ⟨h4, h5⟩ := h3
              simp only
              rw [if_neg (by cases own <;> simp_all)]
              exact nx _ _ h5
            | ex _ _ _ => rw [hf] at h3; exact h3.elim
            | no => rw [hf] at h3; exact h3.elim
        | ex _ _ _ => rw [hc] at h1; exact h1.elim
        | no => rw [hc] at h1; exact h1.elim
  exact go xs 0 r [] (fun i => by simp) (by simp) h0
end
end Y
namespace Y
open PySem L2 PyProof.Rows
section
variable {r : Ev} {i n : Nat} {a b k : Int} {x y : Dt} {m : Md} {xs ys : List Dt} {α : Type}
@[simp] theorem wO_mulT {Q : Dt → Md → Prop} : wO (fMul [.t xs, .i k]) Q = ((xs ≠ [] ∧ -1000000 ≤ k ∧ k ≤ 1000 ∧ xs.length ≤ 1000) ∧ Q (.t (List.replicate k.toNat xs).flatten) .c) := by
  simp only [fMul, fMulI, fIC, fRepL, fRepT, Option.none_or]
  by_cases h : xs ≠ [] ∧ -1000000 ≤ k ∧ k ≤ 1000 ∧ xs.length ≤ 1000
  · rw [if_pos h]; simp [h]
  · rw [if_neg h]; simp only [h, false_and, wO_none]
@[simp] theorem wL_enumT {QL : List Dt → Prop} : wL (sEnum [.t xs]) QL = QL (enumD 0 xs) := id rfl
theorem wAt_M {f : α → Dt} {us : List α} {Q : Dt → Prop} (h0 : 0 ≤ k) (h1 : k < us.length) (q : ∀ x, us[k.toNat]? = some x → Q (f x)) : wAt (us.map f) k Q := by
  obtain ⟨n, rfl⟩ := Int.eq_ofNat_of_zero_le h0
  have hn : n < us.length := by omega
  exact ⟨f us[n], by rw [Y.atI_nat]; simp [hn], q _ (by simp [hn])⟩
theorem wSt_M {f : α → Dt} {us : List α} {y : α} {Q : List Dt → Prop} (h0 : 0 ≤ k) (h1 : k < us.length) (q : Q ((us.set k.toNat y).map f)) : wSt (us.map f) k (f y) Q := by
  obtain ⟨n, rfl⟩ := Int.eq_ofNat_of_zero_le h0
  have hn : n < us.length := by omega
  refine ⟨n, ixN_nat (by simpa using hn), ?_⟩
  have e : (us.set n y).map f = (us.map f).set n (f y) := by simp [List.map_set]
  have q : Q ((us.set n y).map f) := by simpa using q
  rw [← e]; exact q
theorem wAj_M {f : α → Dt} {us : List α} {Q : Nat → Dt → Prop} (h0 : 0 ≤ k) (h1 : k < us.length) (q : ∀ x, us[k.toNat]? = some x → Q k.toNat (f x)) : wAj (us.map f) k Q := by
  obtain ⟨n, rfl⟩ := Int.eq_ofNat_of_zero_le h0
  have hn : n < us.length := by omega
  exact ⟨n, f us[n], ixN_nat (by simpa using hn), by simp [hn], by simpa using q us[n] (by simp [hn])⟩
mutual
theorem pl_can : ∀ (d : Nat) (x : Dt), pl d x = true → (toP x).canLay0 = true ∧ (toP x).depth ≤ d
  | 0, x, h => by simp [pl] at h
  | d + 1, .n, _ => by simp [toP, PyData.canLay0, PyData.depth]
  | d + 1, .b _, _ => by simp [toP, PyData.canLay0, PyData.depth]
  | d + 1, .i _, _ => by simp [toP, PyData.canLay0, PyData.depth]
  | d + 1, .s z, h => by
    have h : PyData.strOk z = true := h
    simp [toP, PyData.canLay0, PyData.depth, h]
  | d + 1, .t xs, h => by
    simp only [pl, Bool.and_eq_true, List.all_eq_true, decide_eq_true_eq] at h
    obtain ⟨h1, h2⟩ := plL_can d xs h.2
    exact ⟨by simpa [toP, PyData.canLay0] using h1, by simp only [toP, PyData.depth]; omega⟩
  | d + 1, .l xs, h => by
    simp only [pl, Bool.and_eq_true, List.all_eq_true, decide_eq_true_eq] at h
    obtain ⟨h1, h2⟩ := plL_can d xs h.2
    exact ⟨by simpa [toP, PyData.canLay0] using h1, by simp only [toP, PyData.depth]; omega⟩
  | d + 1, .z _, h => by simp [pl] at h
  | d + 1, .m _ _, h => by simp [pl] at h
  | d + 1, .o _ _ _, h => by simp [pl] at h
  | d + 1, .x _ _ _, h => by simp [pl] at h
  | d + 1, .f _, h => by simp [pl] at h
  | d + 1, .k _ _, h => by simp [pl] at h
theorem plL_can : ∀ (d : Nat) (xs : List Dt), (∀ x ∈ xs, pl d x = true) → PyData.canLayAll0 (toPL xs) = true ∧ PyData.depthAll (toPL xs) ≤ d
  | d, [], _ => by simp [toPL, PyData.canLayAll0, PyData.depthAll]
  | d, x :: xs, h => by
    obtain ⟨h1, h2⟩ := pl_can d x (h x List.mem_cons_self)
    obtain ⟨h3, h4⟩ := plL_can d xs fun z hz => h z (List.mem_cons_of_mem _ hz)
    exact ⟨by simp [toPL, PyData.canLayAll0, h1, h3], by simp only [toPL, PyData.depthAll]; omega⟩
end
theorem pl_shp {d : Nat} (h : pl d x = true) (hd : d ≤ 60) : shp x = true := by
  obtain ⟨h1, h2⟩ := pl_can d x h
  simp [shp, SeqAt.shaped, h1]; omega
theorem eqD_refl {d : Nat} (h : pl d x = true) : eqD x x = true := SeqAt.eqv_refl _ (pl_can d x h).1
theorem eqD_l0 : eqD (.l xs) (.l []) = xs.isEmpty := by
  cases xs <;> simp [eqD, toP, toPL, PyData.eqv, PyData.eqvAll]
theorem wO_neP0 {d : Nat} {Q : Dt → Md → Prop} (h : pl d (.l xs) = true) (hd : d ≤ 60) : wO (fNe [.l xs, .l []]) Q = Q (.b (!xs.isEmpty)) .c := by
  rw [wO_neL]; simp only [pl_shp h hd, shp_li [], eqD_l0, show shp (.l []) = true from shp_li [], true_and]
theorem eqD_nl : eqD .n (.l xs) = false := by simp [eqD, toP, PyData.eqv]
@[simp] theorem wO_eqN {Q : Dt → Md → Prop} : wO (fEq [.n, .l []]) Q = Q (.b false) .c := by
  rw [wO_eq fun z h => by cases h]; simp only [eqD_nl, show shp (.l []) = true from shp_li [], show shp .n = true from rfl, true_and]
def rm (r : List Int) : Dt := .t (r.map .i)
def lm (r : List Int) : Dt := .l (r.map .i)
/-- a house -/
def hs (R : List (List Int)) (D : List Int) : Dt := .t [.t (R.map rm), .t (D.map .i)]
/-- .. told by lists -/
def hl (R : List (List Int)) (D : List Int) : Dt := .l [.l (R.map lm), .l (D.map .i)]
theorem flat_t (f : α → List Dt) (h : ∀ x, flatL (f x) = true) (us : List α) : flatL (us.map fun x => .t (f x)) = true := by
  induction us with
  | nil => rfl
  | cons u us ih => simp [flatL, Dt.flat, h, ih]
theorem flat_rm (R : List (List Int)) : flatL (R.map rm) = true := flat_t (fun r : List Int => r.map Dt.i) flat_i R
theorem flat_pr (ps : List (Int × Int)) : flatL (ps.map pr) = true := flat_t (fun p : Int × Int => [Dt.i p.1, Dt.i p.2]) (fun _ => rfl) ps
theorem flat_hs (R : List (List Int)) (D : List Int) : (hs R D).flat = true := by
  simp [hs, Dt.flat, flatL, flat_rm, flat_i]
@[simp] theorem flat_pr1 (p : Int × Int) : (pr p).flat = true := rfl
@[simp] theorem wM_hs {Q : Ev → Prop} {ag : List Ag} {R : List (List Int)} {D : List Int} : wM (hs R D, .c) ag r Q = Q r := wM_f (y := (hs R D, .c)) (by simp only [zfl, flat_hs])
@[simp] theorem wM_pr {Q : Ev → Prop} {ag : List Ag} {p : Int × Int} : wM (pr p, .c) ag r Q = Q r := wM_f (y := (pr p, .c)) rfl
theorem pl_pr {d : Nat} {ps : List (Int × Int)} (h : ps.length ≤ LIM) : pl (d + 3) (.l (ps.map pr)) = true := by
  simp only [pl, Bool.and_eq_true, decide_eq_true_eq, List.length_map, List.all_eq_true]
  refine ⟨h, fun x hx => ?_⟩
  obtain ⟨p, _, rfl⟩ := List.mem_map.mp hx
  simp [pr, pl, LIM]
theorem pl_rm {d : Nat} {r : List Int} (h : r.length ≤ 1000) : pl (d + 2) (rm r) = true := pl_ti h
theorem pl_hs {d : Nat} {R : List (List Int)} {D : List Int} (h : ∀ r ∈ R, r.length ≤ 1000) (hR : R.length ≤ 1000) (hD : D.length ≤ 1000) : pl (d + 4) (hs R D) = true := by
  refine pl_t (by simp) fun x hx => ?_
  simp only [List.mem_cons, List.not_mem_nil, or_false] at hx
  rcases hx with rfl | rfl
  · refine pl_t (by simpa using hR) fun x hx => ?_
    obtain ⟨r, hr, rfl⟩ := List.mem_map.mp hx
    exact pl_rm (h r hr)
  · exact pl_ti hD
/-- a house in which each of the folk stands once -/
structure Hou (folk : List Int) (d : Nat) (R : List (List Int)) (D : List Int) : Prop where
  lr : R.length = d + 1
  ld : D.length = d
  perm : R.flatten.Perm folk
  srt : ∀ r ∈ R, r.Pairwise (· < ·)
  bd : ∀ m ∈ D, 0 ≤ m ∧ m < 2 ^ 63
/-- folk, drawn -/
structure Fk (folk : List Int) : Prop where
  srt : folk.Pairwise (· < ·)
  bd : ∀ w ∈ folk, 1 ≤ w ∧ w < 2 ^ 62
  len : folk.length ≤ 60
theorem Fk.nd {folk : List Int} (f : Fk folk) : folk.Nodup := f.srt.imp fun h => by omega
theorem Hou.mem {folk : List Int} {d : Nat} {R : List (List Int)} {D : List Int} (h : Hou folk d R D) {r : List Int} (hr : r ∈ R) {w : Int} (hw : w ∈ r) : w ∈ folk := h.perm.mem_iff.mp (List.mem_flatten_of_mem hr hw)
theorem Hou.rlen {folk : List Int} {d : Nat} {R : List (List Int)} {D : List Int} (h : Hou folk d R D) {r : List Int} (hr : r ∈ R) : r.length ≤ folk.length := by
  rw [← h.perm.length_eq]
  exact (List.sublist_flatten_of_mem hr).length_le
theorem Hou.pl {folk : List Int} {d : Nat} {R : List (List Int)} {D : List Int} (f : Fk folk) (h : Hou folk d R D) (hd : d ≤ 60) {n : Nat} : Y.pl (n + 4) (hs R D) = true :=
  pl_hs (fun r hr => by have := h.rlen hr; have := f.len; omega) (by have := h.lr; omega) (by have := h.ld; omega)
theorem rep_i (k : Nat) (a : Int) : (List.replicate k [Dt.i a]).flatten = (List.replicate k a).map .i := by
  induction k with
  | zero => rfl
  | succ k ih => simp [List.replicate_succ, ih]
theorem rep_t (k : Nat) : (List.replicate k [Dt.t []]).flatten = (List.replicate k []).map rm := by
  induction k with
  | zero => rfl
  | succ k ih => simp only [List.replicate_succ, List.flatten_cons, List.map_cons, ih]; rfl
/-- the goings by the k-th door (from 0) -/
def stepAt (R : List (List Int)) (D : List Int) (k : Nat) : List (Int × Int) :=
  ((R.getD k []).filter fun w => decide (D.getD k 0 < w)).map (fun w => (w, (k : Int) + 1)) ++ ((R.getD (k + 1) []).filter fun w => decide (w < D.getD k 0)).map fun w => (w, (k : Int) + 1)
def stepsTo (R : List (List Int)) (D : List Int) (k : Nat) : List (Int × Int) := (List.range k).flatMap (stepAt R D)
/-- all goings that are let, rising -/
def steps (R : List (List Int)) (D : List Int) : List (Int × Int) := psrt (stepsTo R D D.length)
theorem stepsTo_s (R : List (List Int)) (D : List Int) (k : Nat) : stepsTo R D (k + 1) = stepsTo R D k ++ stepAt R D k := by simp [stepsTo, List.range_succ]
theorem mem_steps {R : List (List Int)} {D : List Int} {p : Int × Int} : p ∈ steps R D ↔ ∃ k : Nat, k < D.length ∧ p.2 = (k : Int) + 1 ∧ ((p.1 ∈ R.getD k [] ∧ D.getD k 0 < p.1) ∨ (p.1 ∈ R.getD (k + 1) [] ∧ p.1 < D.getD k 0)) := by
  unfold steps
  rw [(psrt_perm _).mem_iff]
  simp only [stepsTo, List.mem_flatMap, List.mem_range, stepAt, List.mem_append, List.mem_map, List.mem_filter, decide_eq_true_eq]
  constructor
  · rintro ⟨k, hk, ⟨w, ⟨h1, h2⟩, rfl⟩ | ⟨w, ⟨h1, h2⟩, rfl⟩⟩
    · exact ⟨k, hk, rfl, .inl ⟨h1, h2⟩⟩
    · exact ⟨k, hk, rfl, .inr ⟨h1, h2⟩⟩
  · rintro ⟨k, hk, h1, ⟨h2, h3⟩ | ⟨h2, h3⟩⟩
    · exact ⟨k, hk, .inl ⟨p.1, ⟨h2, h3⟩, by rw [← h1]⟩⟩
    · exact ⟨k, hk, .inr ⟨p.1, ⟨h2, h3⟩, by rw [← h1]⟩⟩
/-- the house behind a going by the k-th door (from 0) -/
def behR (R : List (List Int)) (w : Int) (k : Nat) : List (List Int) :=
  let b := if w ∈ R.getD k [] then k else k + 1
  let e := if w ∈ R.getD k [] then k + 1 else k
  (R.set b ((R.getD b []).filter fun v => decide (v ≠ w))).set e (isrt ((R.getD e []) ++ [w]))
theorem len_steps {folk : List Int} {d : Nat} {R : List (List Int)} {D : List Int} (f : Fk folk) (h : Hou folk d R D) (hd : d ≤ 60) : (steps R D).length ≤ 7200 := by
  unfold steps
  rw [psrt_len]
  have : ∀ k, (stepAt R D k).length ≤ 120 := fun k => by
    have rl : ∀ j, (R.getD j []).length ≤ 60 := fun j => by
      rw [List.getD_eq_getElem?_getD]
      cases e : R[j]? with
      | none => simp
      | some r => have := h.rlen (List.mem_of_getElem? e); have := f.len; simp; omega
    simp only [stepAt, List.length_append, List.length_map]
    have h1 := List.length_filter_le (fun w => decide (D.getD k 0 < w)) (R.getD k [])
    have h2 := List.length_filter_le (fun w => decide (w < D.getD k 0)) (R.getD (k + 1) [])
    have := rl k
    have := rl (k + 1)
    omega
  have e : ∀ k, (stepsTo R D k).length ≤ k * 120 := by
    intro k
    induction k with
    | zero => simp [stepsTo]
    | succ k ih => rw [stepsTo_s, List.length_append]; have := this k; omega
  have := e D.length
  have := h.ld
  omega
theorem setp {x y : List Int} : ∀ {R : List (List Int)} {i : Nat}, R[i]? = some x → (x ++ (R.set i y).flatten).Perm (y ++ R.flatten)
  | [], _, h => by simp at h
  | r :: R, 0, h => by
    simp at h; subst h
    simp only [List.set_cons_zero, List.flatten_cons]
    rw [← List.append_assoc, ← List.append_assoc]
    exact List.perm_append_comm.append_right _
  | r :: R, i + 1, h => by
    have ih := setp (y := y) (R := R) (i := i) (by simpa using h)
    simp only [List.set_cons_succ, List.flatten_cons]
    calc (x ++ (r ++ (R.set i y).flatten)).Perm (r ++ (x ++ (R.set i y).flatten)) := by
            rw [← List.append_assoc, ← List.append_assoc]; exact List.perm_append_comm.append_right _
      _ |>.Perm (r ++ (y ++ R.flatten)) := ih.append_left r
      _ |>.Perm (y ++ (r ++ R.flatten)) := by
            rw [← List.append_assoc, ← List.append_assoc]; exact List.perm_append_comm.append_right _
theorem Hou.move {folk : List Int} {d : Nat} {R : List (List Int)} {D : List Int} (f : Fk folk) (h : Hou folk d R D) {w : Int} {b e : Nat} {rb re : List Int} (hbe : b ≠ e) (hb : R[b]? = some rb) (he : R[e]? = some re) (hw : w ∈ rb) {D' : List Int} (hl : D'.length = d) (hd : ∀ m ∈ D', 0 ≤ m ∧ m < 2 ^ 63) : Hou folk d ((R.set b (rb.filter fun v => decide (v ≠ w))).set e (isrt (re ++ [w]))) D' := by
  have hp1 := setp (y := rb.filter fun v => decide (v ≠ w)) hb
  have he2 : (R.set b (rb.filter fun v => decide (v ≠ w)))[e]? = some re := by rw [List.getElem?_set_ne hbe]; exact he
  have hp2 := setp (y := isrt (re ++ [w])) he2
  generalize hS : R.set b (rb.filter fun v => decide (v ≠ w)) = S at hp1 hp2 ⊢
  have hp3 : (re ++ (S.set e (isrt (re ++ [w]))).flatten).Perm (re ++ ([w] ++ S.flatten)) := by
    refine hp2.trans ?_
    rw [← List.append_assoc]
    exact (isrt_perm _).append_right _
  have hp4 := (List.perm_append_left_iff re).mp hp3
  have ndb : rb.Nodup := (h.srt rb (List.mem_of_getElem? hb)).imp fun h => by omega
  have ef : rb.filter (fun v => decide (v ≠ w)) = rb.erase w := by
    rw [List.Nodup.erase_eq_filter ndb]
    refine List.filter_congr fun v _ => ?_
    by_cases hv : v = w <;> simp [hv]
  have hp5 : rb.Perm (w :: rb.filter fun v => decide (v ≠ w)) := by rw [ef]; exact List.perm_cons_erase hw
  have hp6 : ((rb.filter fun v => decide (v ≠ w)) ++ ([w] ++ S.flatten)).Perm ((rb.filter fun v => decide (v ≠ w)) ++ R.flatten) := by
    refine List.Perm.trans ?_ hp1
    refine List.Perm.trans ?_ (hp5.append_right _).symm
    rw [← List.append_assoc, List.cons_append, ← List.singleton_append (l := _ ++ _), ← List.append_assoc]
    exact List.perm_append_comm.append_right _
  have hp7 := (List.perm_append_left_iff _).mp hp6
  have hp := (hp4.trans hp7).trans h.perm
  have nd := hp.nodup_iff.mpr f.nd
  refine ⟨by rw [List.length_set, ← hS, List.length_set]; exact h.lr, hl, hp, fun r hr => ?_, hd⟩
  rcases List.mem_or_eq_of_mem_set hr with hr2 | rfl
  · rw [← hS] at hr2
    rcases List.mem_or_eq_of_mem_set hr2 with hr3 | rfl
    · exact h.srt r hr3
    · exact (h.srt rb (List.mem_of_getElem? hb)).filter _
  · have := (isrt_le (re ++ [w])).and (nd.sublist (List.sublist_flatten_of_mem hr))
    exact this.imp fun h => by omega
theorem Hou.beh {folk : List Int} {d : Nat} {R : List (List Int)} {D : List Int} (f : Fk folk) (h : Hou folk d R D) {w : Int} {k : Nat} (hk : k < d) (hw : w ∈ R.getD k [] ∨ w ∈ R.getD (k + 1) []) : Hou folk d (behR R w k) (D.set k w) := by
  have hlr := h.lr
  have hld := h.ld
  have e0 : R[k]? = some (R.getD k []) := by rw [List.getD_eq_getElem?_getD, List.getElem?_eq_getElem (by omega)]; rfl
  have e1 : R[k + 1]? = some (R.getD (k + 1) []) := by rw [List.getD_eq_getElem?_getD, List.getElem?_eq_getElem (by omega)]; rfl
  have hwf : w ∈ folk := by
    rcases hw with hw | hw
    · exact h.mem (List.mem_of_getElem? e0) hw
    · exact h.mem (List.mem_of_getElem? e1) hw
  have hD : ∀ m ∈ D.set k w, 0 ≤ m ∧ m < 2 ^ 63 := by
    intro m hm
    rcases List.mem_or_eq_of_mem_set hm with hm | rfl
    · exact h.bd m hm
    · have := f.bd m hwf; omega
  unfold behR
  by_cases c : w ∈ R.getD k []
  · simp only [if_pos c]
    exact h.move f (by omega) e0 e1 c (by rw [List.length_set]; exact hld) hD
  · simp only [if_neg c]
    exact h.move f (by omega) e1 e0 (hw.resolve_left c) (by rw [List.length_set]; exact hld) hD
theorem lc_mM' {own : Bool} {vs : List Nat} {t : Vl → Ev → Option Ev} {c : Ev → Ou Bool} {fe : Ev → Ou Vl} {f : α → Dt} (G : α → Dt) : ∀ (us : List α) (acc : List Dt), (∀ u ∈ us, wK (t (f u, .c) r) fun r1 => wT c r1 fun b r2 => b = true ∧ wE fe r2 fun y r3 => y.1 = G u ∧ (own = true → zfl y = true) ∧ wipeE r3 vs = r) → lcL vs t c fe own (us.map f) r acc = .ok (acc ++ us.map G) r
  | [], acc, _ => by simp [lcL]
  | x :: xs, acc, h => by
    have h1 := h x List.mem_cons_self
    unfold wK at h1
    simp only [List.map_cons, lcL]
    cases ht : t (f x, .c) r with
    | none => rw [ht] at h1; exact h1.elim
    | some r1 =>
      rw [ht] at h1
      simp only at h1 ⊢
      unfold wT at h1
      cases hc : c r1 with
      | ok b r2 =>
        rw [hc] at h1
        obtain ⟨rfl, h1⟩ := h1
        simp only
        unfold wE at h1
        cases hf : fe r2 with
        | ok y r3 =>
          rw [hf] at h1
          obtain ⟨y, my⟩ := y
          obtain ⟨e1, e2, e3⟩ := h1
          simp only at e1 ⊢
          subst e1
          rw [e3, if_neg (by cases own <;> simp_all), lc_mM' G xs _ fun z hz => h z (List.mem_cons_of_mem _ hz)]
          simp
        | ex _ _ _ => rw [hf] at h1; exact h1.elim
        | no => rw [hf] at h1; exact h1.elim
      | ex _ _ _ => rw [hc] at h1; exact h1.elim
      | no => rw [hc] at h1; exact h1.elim
theorem lc_mM {own : Bool} {vs : List Nat} {t : Vl → Ev → Option Ev} {c : Ev → Ou Bool} {fe : Ev → Ou Vl} {f : α → Dt} (G : α → Dt) {us : List α} (h : ∀ u ∈ us, wK (t (f u, .c) r) fun r1 => wT c r1 fun b r2 => b = true ∧ wE fe r2 fun y r3 => y.1 = G u ∧ (own = true → zfl y = true) ∧ wipeE r3 vs = r) : lcL vs t c fe own (us.map f) r [] = .ok (us.map G) r := by
  simpa using lc_mM' G us [] h
theorem lc_fM' {own : Bool} {vs : List Nat} {t : Vl → Ev → Option Ev} {c : Ev → Ou Bool} {fe : Ev → Ou Vl} {f : α → Dt} (C : α → Bool) (G : α → Dt) : ∀ (us : List α) (acc : List Dt), (∀ x ∈ us, wK (t (f x, .c) r) fun r1 => wT c r1 fun b r2 => b = C x ∧ (b = false → wipeE r2 vs = r) ∧ (b = true → wE fe r2 fun y r3 => y.1 = G x ∧ (own = true → zfl y = true) ∧ wipeE r3 vs = r)) → lcL vs t c fe own (us.map f) r acc = .ok (acc ++ (us.filter C).map G) r
  | [], acc, _ => by simp [lcL]
  | x :: xs, acc, h => by
    have h1 := h x List.mem_cons_self
    unfold wK at h1
    simp only [List.map_cons, lcL]
    cases ht : t (f x, .c) r with
    | none => rw [ht] at h1; exact h1.elim
    | some r1 =>
      rw [ht] at h1
      simp only at h1 ⊢
      unfold wT at h1
      cases hc : c r1 with
      | ok b r2 =>
        rw [hc] at h1
        obtain ⟨h2, h3, h4⟩ := h1
        cases b with
        | false =>
          simp only
          rw [h3 rfl, lc_fM' C G xs acc fun z hz => h z (List.mem_cons_of_mem _ hz)]
          simp [← h2]
        | true =>
          simp only
          have h4 := h4 rfl
          unfold wE at h4
          cases hf : fe r2 with
          | ok y r3 =>
            rw [hf] at h4
            obtain ⟨y, my⟩ := y
            obtain ⟨e1, e2, e3⟩ := h4
            simp only at e1 ⊢
            subst e1
            rw [e3, if_neg (by cases own <;> simp_all), lc_fM' C G xs _ fun z hz => h z (List.mem_cons_of_mem _ hz)]
            simp [← h2]
          | ex _ _ _ => rw [hf] at h4; exact h4.elim
          | no => rw [hf] at h4; exact h4.elim
      | ex _ _ _ => rw [hc] at h1; exact h1.elim
      | no => rw [hc] at h1; exact h1.elim
theorem lc_fM {own : Bool} {vs : List Nat} {t : Vl → Ev → Option Ev} {c : Ev → Ou Bool} {fe : Ev → Ou Vl} {f : α → Dt} (C : α → Bool) (G : α → Dt) {us : List α} (h : ∀ x ∈ us, wK (t (f x, .c) r) fun r1 => wT c r1 fun b r2 => b = C x ∧ (b = false → wipeE r2 vs = r) ∧ (b = true → wE fe r2 fun y r3 => y.1 = G x ∧ (own = true → zfl y = true) ∧ wipeE r3 vs = r)) : lcL vs t c fe own (us.map f) r [] = .ok ((us.filter C).map G) r := by
  simpa using lc_fM' C G us [] h
/-- folk in rooms -/
structure Pt (c : Nat) (ws : List Int) (R : List (List Int)) : Prop where
  lr : R.length = c
  perm : R.flatten.Perm ws
  srt : ∀ r ∈ R, r.Pairwise (· < ·)
theorem Pt.nil (c : Nat) : Pt c [] (List.replicate c []) := ⟨by simp, by simp, fun r hr => by rw [(List.mem_replicate.mp hr).2]; exact .nil⟩
theorem Pt.next {folk : List Int} {c k j : Nat} {R : List (List Int)} {w : Int} {r : List Int} (f : Fk folk) (h : Pt c (folk.take k) R) (hw : folk[k]? = some w) (hr : R[j]? = some r) : Pt c (folk.take (k + 1)) (R.set j (r ++ [w])) := by
  have hk := (List.getElem?_eq_some_iff.mp hw).1
  have ew : folk[k] = w := (List.getElem?_eq_some_iff.mp hw).2
  have et : folk.take (k + 1) = folk.take k ++ [w] := by rw [List.take_succ, hw]; rfl
  refine ⟨by rw [List.length_set]; exact h.lr, ?_, fun r' hr' => ?_⟩
  · have hp := setp (y := r ++ [w]) hr
    rw [List.append_assoc] at hp
    have hp2 := (List.perm_append_left_iff r).mp hp
    rw [et]
    exact hp2.trans ((List.perm_append_comm).trans (h.perm.append_right _))
  · rcases List.mem_or_eq_of_mem_set hr' with hr' | rfl
    · exact h.srt r' hr'
    · refine List.pairwise_append.mpr ⟨h.srt r (List.mem_of_getElem? hr), by simp, fun a ha b hb => ?_⟩
      rw [List.mem_singleton.mp hb]
      have ha2 : a ∈ folk.take k := h.perm.mem_iff.mp (List.mem_flatten_of_mem (List.mem_of_getElem? hr) ha)
      have hs := f.srt
      rw [← List.take_append_drop (k + 1) folk, et, List.append_assoc] at hs
      exact (List.pairwise_append.mp hs).2.2 a ha2 w (by simp)
theorem Pt.rlen {c : Nat} {ws : List Int} {R : List (List Int)} (h : Pt c ws R) {r : List Int} (hr : r ∈ R) : r.length ≤ ws.length := by
  rw [← h.perm.length_eq]
  exact (List.sublist_flatten_of_mem hr).length_le
theorem Pt.hou {folk : List Int} {d : Nat} {R : List (List Int)} {D : List Int} (h : Pt (d + 1) folk R) (hl : D.length = d) (hd : ∀ m ∈ D, 0 ≤ m ∧ m < 2 ^ 63) : Hou folk d R D := ⟨h.lr, hl, h.perm, h.srt, hd⟩
theorem set_lm {R : List (List Int)} {j : Nat} {y : List Int} : (R.map lm).set j (.l (y.map .i)) = (R.set j y).map lm := by simp [List.map_set, lm]
/-- what is seen from a room, from its two doors' memories -/
def seenL (b e : Int) (r : List Int) : List Int := r.filter fun w => decide (w ≤ b ∨ e ≤ w)
/-- the rooms in which nothing is seen -/
def unwellL (R : List (List Int)) (D : List Int) : List Int := ((List.range (D.length - 1)).filter fun k => decide (D.getD (k + 1) 0 < D.getD k 0) && decide (seenL (D.getD (k + 1) 0) (D.getD k 0) (R.getD (k + 1) []) = [])).map fun k : Nat => (k : Int) + 1
theorem mem_unwellL {R : List (List Int)} {D : List Int} {z : Int} : z ∈ unwellL R D ↔ ∃ j : Nat, j + 1 < D.length ∧ z = (j : Int) + 1 ∧ D.getD (j + 1) 0 < D.getD j 0 ∧ ∀ v ∈ R.getD (j + 1) [], D.getD (j + 1) 0 < v ∧ v < D.getD j 0 := by
  simp only [unwellL, List.mem_map, List.mem_filter, List.mem_range, Bool.and_eq_true, decide_eq_true_eq, seenL, List.filter_eq_nil_iff]
  constructor
  · rintro ⟨j, ⟨h1, h2, h3⟩, rfl⟩
    exact ⟨j, by omega, rfl, h2, fun v hv => by have := h3 v hv; omega⟩
  · rintro ⟨j, h1, rfl, h2, h3⟩
    exact ⟨j, ⟨by omega, h2, fun v hv => by have := h3 v hv; omega⟩, rfl⟩
theorem set_getD {D : List α} {k j : Nat} {w z : α} (h : k < D.length) : (D.set k w).getD j z = if j = k then w else D.getD j z := by
  simp only [List.getD_eq_getElem?_getD, List.getElem?_set]
  by_cases c : k = j
  · subst c; simp [h]
  · simp [c, show ¬ j = k from fun e => c e.symm]
theorem beh_other {R : List (List Int)} {w : Int} {k i : Nat} (hk : k + 1 < R.length) (h1 : i ≠ k) (h2 : i ≠ k + 1) : (behR R w k).getD i [] = R.getD i [] := by
  unfold behR
  by_cases c : w ∈ R.getD k []
  · simp only [if_pos c]
    rw [set_getD (by rw [List.length_set]; omega), set_getD (by omega), if_neg h2, if_neg h1]
  · simp only [if_neg c]
    rw [set_getD (by rw [List.length_set]; omega), set_getD (by omega), if_neg h1, if_neg h2]
theorem beh_keep {R : List (List Int)} {w v : Int} {k i : Nat} (hk : k + 1 < R.length) (hv : v ∈ R.getD i []) (hw : v ≠ w) : v ∈ (behR R w k).getD i [] := by
  by_cases h1 : i = k
  · unfold behR
    by_cases c : w ∈ R.getD k []
    · simp only [if_pos c]
      rw [set_getD (by rw [List.length_set]; omega), set_getD (by omega), if_neg (by omega), if_pos h1]
      subst h1; exact List.mem_filter.mpr ⟨hv, by simpa using hw⟩
    · simp only [if_neg c]
      rw [set_getD (by rw [List.length_set]; omega), if_pos h1, isrt_mem]
      subst h1; exact List.mem_append_left _ hv
  · by_cases h2 : i = k + 1
    · unfold behR
      by_cases c : w ∈ R.getD k []
      · simp only [if_pos c]
        rw [set_getD (by rw [List.length_set]; omega), if_pos h2, isrt_mem]
        subst h2; exact List.mem_append_left _ hv
      · simp only [if_neg c]
        rw [set_getD (by rw [List.length_set]; omega), set_getD (by omega), if_neg (by omega), if_pos h2]
        subst h2; exact List.mem_filter.mpr ⟨hv, by simpa using hw⟩
    · rw [beh_other hk h1 h2]; exact hv
theorem beh_forth {R : List (List Int)} {w : Int} {k : Nat} (hk : k + 1 < R.length) (c : w ∈ R.getD k []) : w ∈ (behR R w k).getD (k + 1) [] := by
  unfold behR
  simp only [if_pos c]
  rw [set_getD (by rw [List.length_set]; omega), if_pos rfl, isrt_mem]
  simp
theorem beh_back {R : List (List Int)} {w : Int} {k : Nat} (hk : k + 1 < R.length) (c : ¬ w ∈ R.getD k []) : w ∈ (behR R w k).getD k [] := by
  unfold behR
  simp only [if_neg c]
  rw [set_getD (by rw [List.length_set]; omega), if_pos rfl, isrt_mem]
  simp
/-- nobody stands in two rooms -/
theorem Hou.one {folk : List Int} {d : Nat} {R : List (List Int)} {D : List Int} (f : Fk folk) (h : Hou folk d R D) {w : Int} : ∀ {i j : Nat}, i < j → w ∈ R.getD i [] → w ∈ R.getD j [] → False := by
  have nd : R.flatten.Nodup := h.perm.nodup_iff.mpr f.nd
  have pw := (List.pairwise_flatten.mp nd).2
  intro i j hij h1 h2
  have li : i < R.length := by
    refine Nat.lt_of_not_le fun c => ?_
    rw [List.getD_eq_getElem?_getD, List.getElem?_eq_none c] at h1; simp at h1
  have lj : j < R.length := by
    refine Nat.lt_of_not_le fun c => ?_
    rw [List.getD_eq_getElem?_getD, List.getElem?_eq_none c] at h2; simp at h2
  have e1 : R.getD i [] = R[i] := by rw [List.getD_eq_getElem?_getD, List.getElem?_eq_getElem li]; rfl
  have e2 : R.getD j [] = R[j] := by rw [List.getD_eq_getElem?_getD, List.getElem?_eq_getElem lj]; rfl
  rw [e1] at h1
  rw [e2] at h2
  exact List.pairwise_iff_getElem.mp pw i j li lj hij w h1 w h2 rfl
/-- what it means that a going is let -/
def Let (R : List (List Int)) (D : List Int) (w : Int) (k : Nat) : Prop := (w ∈ R.getD k [] ∧ D.getD k 0 < w) ∨ (¬ w ∈ R.getD k [] ∧ w ∈ R.getD (k + 1) [] ∧ w < D.getD k 0)
theorem steps_let {folk : List Int} {d : Nat} {R : List (List Int)} {D : List Int} (f : Fk folk) (h : Hou folk d R D) {p : Int × Int} (hp : p ∈ steps R D) : ∃ k : Nat, k < d ∧ p = (p.1, (k : Int) + 1) ∧ Let R D p.1 k := by
  obtain ⟨k, hk, e, h1⟩ := mem_steps.mp hp
  refine ⟨k, by rw [← h.ld]; exact hk, by rw [← e], ?_⟩
  rcases h1 with h1 | h1
  · exact .inl h1
  · exact .inr ⟨fun c => h.one f (Nat.lt_succ_self k) c h1.1, h1.1, h1.2⟩
theorem Let.hou {folk : List Int} {d : Nat} {R : List (List Int)} {D : List Int} (f : Fk folk) (h : Hou folk d R D) {w : Int} {k : Nat} (hk : k < d) (l : Let R D w k) : Hou folk d (behR R w k) (D.set k w) := by
  refine h.beh f hk ?_
  rcases l with l | l
  · exact .inl l.1
  · exact .inr l.2.1
/-- a going that is let leaves no room unwell that was well -/
theorem unwell_step {folk : List Int} {d : Nat} {R : List (List Int)} {D : List Int} (f : Fk folk) (h : Hou folk d R D) {w : Int} {k : Nat} (hk : k < d) (l : Let R D w k) {z : Int} (hz : z ∈ unwellL (behR R w k) (D.set k w)) : z ∈ unwellL R D := by
  have hlr := h.lr
  have hld := h.ld
  obtain ⟨j, h1, rfl, h2, h3⟩ := mem_unwellL.mp hz
  rw [List.length_set] at h1
  rw [set_getD (by omega), set_getD (by omega)] at h2 h3
  refine mem_unwellL.mpr ⟨j, h1, rfl, ?_⟩
  have hR : k + 1 < R.length := by omega
  rcases l with ⟨l1, l2⟩ | ⟨l1, l2, l3⟩
  · by_cases c1 : j = k
    · have := h3 w (by rw [c1]; exact beh_forth hR l1)
      rw [if_pos c1] at this
      omega
    · by_cases c2 : j + 1 = k
      · rw [if_pos c2, if_neg c1] at h2 h3
        subst c2
        refine ⟨by omega, fun v hv => ?_⟩
        by_cases cv : v = w
        · omega
        · have := h3 v (beh_keep hR hv cv); omega
      · rw [if_neg c2, if_neg c1, beh_other hR c2 (by omega)] at h3
        rw [if_neg c2, if_neg c1] at h2
        exact ⟨h2, h3⟩
  · by_cases c1 : j + 1 = k
    · have := h3 w (by rw [c1]; exact beh_back hR l1)
      rw [if_pos c1] at this
      omega
    · by_cases c2 : j = k
      · rw [if_neg c1, if_pos c2] at h2 h3
        subst c2
        refine ⟨by omega, fun v hv => ?_⟩
        by_cases cv : v = w
        · omega
        · have := h3 v (beh_keep hR hv cv); omega
      · rw [if_neg c1, if_neg c2, beh_other hR c1 (by omega)] at h3
        rw [if_neg c1, if_neg c2] at h2
        exact ⟨h2, h3⟩
@[simp] theorem wE_Lc2 {vs vs1 : List Nat} {s s1 : Ev → Ou (List Dt)} {t t1 : Vl → Ev → Option Ev} {c c1 : Ev → Ou Bool} {f : Ev → Ou Vl} {Q : Vl → Ev → Prop} : wE (mLc2 vs vs1 s t c s1 t1 c1 f) r Q = wI s r fun xs r1 => ∃ ys r2, lc2L vs vs1 t c s1 t1 c1 f xs (wipeE r1 vs) [] = .ok ys r2 ∧ Q (.l ys, .t) (rsE r1 vs r2) := by
  unfold wE wI
  simp only [mLc2]
  cases s r with
  | ok xs r1 =>
    simp only
    cases e : lc2L vs vs1 t c s1 t1 c1 f xs (wipeE r1 vs) [] with
    | ok ys r2 =>
      simp only [eq_iff_iff]
      exact ⟨fun z => ⟨ys, r2, rfl, z⟩, fun ⟨ys', r', h1, h2⟩ => by cases h1; exact h2⟩
    | ex _ _ _ => simp
    | no => simp
  | ex _ _ _ => rfl
  | no => rfl
theorem lcL_acc {vs : List Nat} {t : Vl → Ev → Option Ev} {c : Ev → Ou Bool} {f : Ev → Ou Vl} {own : Bool} : ∀ (xs : List Dt) (r : Ev) (acc0 acc ys : List Dt) (r' : Ev), lcL vs t c f own xs r acc = .ok ys r' → lcL vs t c f own xs r (acc0 ++ acc) = .ok (acc0 ++ ys) r'
  | [], r, acc0, acc, ys, r', h => by
    simp only [lcL, Ou.ok.injEq] at h ⊢
    exact ⟨by rw [h.1], h.2⟩
  | x :: xs, r, acc0, acc, ys, r', h => by
    simp only [lcL] at h ⊢
    cases ht : t (x, .c) r with
    | none => rw [ht] at h; cases h
    | some r1 =>
      rw [ht] at h
      simp only at h ⊢
      cases hc : c r1 with
      | no => rw [hc] at h; cases h
      | ex _ _ _ => rw [hc] at h; cases h
      | ok b r2 =>
        rw [hc] at h
        cases b with
        | false =>
          simp only at h ⊢
          exact lcL_acc xs _ acc0 acc ys r' h
        | true =>
          simp only at h ⊢
          cases hf : f r2 with
          | no => rw [hf] at h; cases h
          | ex _ _ _ => rw [hf] at h; cases h
          | ok y r3 =>
            rw [hf] at h
            obtain ⟨y, m⟩ := y
            simp only at h ⊢
            by_cases e4 : (own && !zfl (y, m)) = true
            · rw [if_pos e4] at h; cases h
            · rw [if_neg e4] at h ⊢
              rw [List.append_assoc]
              exact lcL_acc xs _ acc0 _ ys r' h
/-- two generators, turn by turn; the state stays; what a turn of the outer one gives -/
theorem lc2_go {vs vs1 : List Nat} {s1 : Ev → Ou (List Dt)} {t t1 : Vl → Ev → Option Ev} {c c1 : Ev → Ou Bool} {fe : Ev → Ou Vl} {f : α → Dt} (G : α → List Dt) : ∀ (us : List α) (acc : List Dt), acc.length + (us.flatMap G).length ≤ LIM →
    (∀ u ∈ us, wK (t (f u, .c) r) fun r1 => wT c r1 fun b r2 => (b = false → G u = [] ∧ wipeE r2 vs = r) ∧ (b = true → wI s1 r2 fun zs r3 => ∃ r4, lcL vs1 t1 c1 fe false zs (wipeE r3 vs1) [] = .ok (G u) r4 ∧ wipeE r4 vs = r ∧ zs.length ≤ 1000)) →
    acc.length + (us.flatMap G).length + 1000 ≤ LIM → lc2L vs vs1 t c s1 t1 c1 fe (us.map f) r acc = .ok (acc ++ us.flatMap G) r
  | [], acc, _, _, _ => by simp [lc2L]
  | u :: us, acc, h0, h, h2 => by
    have h1 := h u List.mem_cons_self
    simp only [List.flatMap_cons, List.length_append] at h0 h2
    unfold wK at h1
    simp only [List.map_cons, lc2L]
    cases ht : t (f u, .c) r with
    | none => rw [ht] at h1; exact h1.elim
    | some r1 =>
      rw [ht] at h1
      simp only at h1 ⊢
      unfold wT at h1
      cases hc : c r1 with
      | ok b r2 =>
        rw [hc] at h1
        cases b with
        | false =>
          obtain ⟨hG, hw⟩ := h1.1 rfl
          simp only
          rw [hw, lc2_go G us acc (by omega) (fun v hv => h v (List.mem_cons_of_mem _ hv)) (by omega)]
          simp [hG]
        | true =>
          have h3 := h1.2 rfl
          simp only
          unfold wI at h3
          cases hs : s1 r2 with
          | ok zs r3 =>
            rw [hs] at h3
            obtain ⟨r4, e4, hw, hl⟩ := h3
            simp only
            rw [if_pos (by omega)]
            have e5 := lcL_acc zs (wipeE r3 vs1) acc [] (G u) r4 e4
            rw [List.append_nil] at e5
            rw [e5]
            simp only
            rw [hw, lc2_go G us (acc ++ G u) (by rw [List.length_append]; omega) (fun v hv => h v (List.mem_cons_of_mem _ hv)) (by rw [List.length_append]; omega)]
            simp
          | ex _ _ _ => rw [hs] at h3; exact h3.elim
          | no => rw [hs] at h3; exact h3.elim
      | ex _ _ _ => rw [hc] at h1; exact h1.elim
      | no => rw [hc] at h1; exact h1.elim
/-- .. the state within bounds -/
theorem lc2_inv {vs vs1 : List Nat} {s1 : Ev → Ou (List Dt)} {t t1 : Vl → Ev → Option Ev} {c c1 : Ev → Ou Bool} {fe : Ev → Ou Vl} {f : α → Dt} (S : Ev → Prop) (G : α → List Dt) : ∀ (us : List α) (r : Ev) (acc : List Dt), S r →
    (∀ u ∈ us, ∀ r, S r → wK (t (f u, .c) r) fun r1 => wT c r1 fun b r2 => (b = false → G u = [] ∧ S (wipeE r2 vs)) ∧ (b = true → wI s1 r2 fun zs r3 => ∃ r4, lcL vs1 t1 c1 fe false zs (wipeE r3 vs1) [] = .ok (G u) r4 ∧ S (wipeE r4 vs) ∧ zs.length ≤ 1000)) →
    acc.length + (us.flatMap G).length + 1000 ≤ LIM → ∃ rf, S rf ∧ lc2L vs vs1 t c s1 t1 c1 fe (us.map f) r acc = .ok (acc ++ us.flatMap G) rf
  | [], r, acc, hs, _, _ => ⟨r, hs, by simp [lc2L]⟩
  | u :: us, r, acc, hS, h, h2 => by
    have h1 := h u List.mem_cons_self r hS
    simp only [List.flatMap_cons, List.length_append] at h2
    unfold wK at h1
    simp only [List.map_cons, lc2L]
    cases ht : t (f u, .c) r with
    | none => rw [ht] at h1; exact h1.elim
    | some r1 =>
      rw [ht] at h1
      simp only at h1 ⊢
      unfold wT at h1
      cases hc : c r1 with
      | ok b r2 =>
        rw [hc] at h1
        cases b with
        | false =>
          obtain ⟨hG, hw⟩ := h1.1 rfl
          simp only
          obtain ⟨rf, e1, e2⟩ := lc2_inv S G us _ acc hw (fun v hv => h v (List.mem_cons_of_mem _ hv)) (by omega)
          exact ⟨rf, e1, by rw [e2]; simp [hG]⟩
        | true =>
          have h3 := h1.2 rfl
          simp only
          unfold wI at h3
          cases hs : s1 r2 with
          | ok zs r3 =>
            rw [hs] at h3
            obtain ⟨r4, e4, hw, hl⟩ := h3
            simp only
            rw [if_pos (by omega)]
            have e5 := lcL_acc zs (wipeE r3 vs1) acc [] (G u) r4 e4
            rw [List.append_nil] at e5
            rw [e5]
            simp only
            obtain ⟨rf, e1, e2⟩ := lc2_inv S G us _ (acc ++ G u) hw (fun v hv => h v (List.mem_cons_of_mem _ hv)) (by rw [List.length_append]; omega)
            exact ⟨rf, e1, by rw [e2]; simp⟩
          | ex _ _ _ => rw [hs] at h3; exact h3.elim
          | no => rw [hs] at h3; exact h3.elim
      | ex _ _ _ => rw [hc] at h1; exact h1.elim
      | no => rw [hc] at h1; exact h1.elim
end
end Y
namespace Y
open PySem L2 PyProof.Rows
/-- by twos: who of a rising list has p -/
def hv (p : Int → Bool) : List Int → Int
  | [] => 0
  | v :: vs => (if p v then 1 else 0) + 2 * hv p vs
/-- two to the power of how many of a rising list are below -/
def hx (m : Int) : List Int → Int
  | [] => 1
  | v :: vs => if m ≤ v then 1 else 2 * hx m vs
theorem hv_0 (p : Int → Bool) : ∀ L, 0 ≤ hv p L
  | [] => by simp [hv]
  | v :: vs => by have := hv_0 p vs; simp only [hv]; split <;> omega
theorem hv_hi (p : Int → Bool) : ∀ L, hv p L + 1 ≤ 2 ^ L.length
  | [] => by simp [hv]
  | v :: vs => by
    have := hv_hi p vs
    simp only [hv, List.length_cons, Int.pow_succ]
    split <;> omega
theorem hx_1 (m : Int) : ∀ L, 1 ≤ hx m L
  | [] => by simp [hx]
  | v :: vs => by have := hx_1 m vs; simp only [hx]; split <;> omega
theorem hv_same {p p' : Int → Bool} : ∀ {L : List Int}, (∀ v ∈ L, p' v = p v) → hv p' L = hv p L
  | [], _ => rfl
  | v :: vs, h => by simp only [hv, h v List.mem_cons_self, hv_same fun u hu => h u (List.mem_cons_of_mem _ hu)]
theorem hv_set {p p' : Int → Bool} {u : Int} : ∀ {L : List Int}, L.Pairwise (· < ·) → u ∈ L → (∀ v, v ≠ u → p' v = p v) → p u = false → p' u = true → hv p' L = hv p L + hx u L
  | [], _, hu, _, _, _ => nomatch hu
  | v :: vs, hs, hu, ho, h0, h1 => by
    obtain ⟨hs1, hs2⟩ := List.pairwise_cons.mp hs
    by_cases e : u = v
    · subst e
      have := hv_same (p := p) (p' := p') (L := vs) fun z hz => ho z (by have := hs1 z hz; omega)
      simp only [hv, hx, h0, h1, this, Int.le_refl, if_true, Bool.false_eq_true, if_false]
      omega
    · have hu' : u ∈ vs := (List.mem_cons.mp hu).resolve_left e
      have ih := hv_set hs2 hu' ho h0 h1
      have := hs1 u hu'
      have n : ¬ u ≤ v := by omega
      simp only [hv, hx, ho v (Ne.symm e), if_neg n, ih]
      omega
theorem hx_dbl {m u : Int} : ∀ {L : List Int}, L.Pairwise (· < ·) → u ∈ L → u < m → 2 * hx u L ≤ hx m L
  | [], _, hu, _ => nomatch hu
  | v :: vs, hs, hu, hm => by
    obtain ⟨hs1, hs2⟩ := List.pairwise_cons.mp hs
    by_cases e : u = v
    · subst e
      have n : ¬ m ≤ u := by omega
      have := hx_1 m vs
      simp only [hx, Int.le_refl, if_true, if_neg n]
      omega
    · have hu' : u ∈ vs := (List.mem_cons.mp hu).resolve_left e
      have ih := hx_dbl hs2 hu' hm
      have := hs1 u hu'
      have n : ¬ u ≤ v := by omega
      have n2 : ¬ m ≤ v := by omega
      simp only [hx, if_neg n, if_neg n2]
      omega
/-- one going by a door: p who is beyond, m what it remembers -/
structure DS (p : Int → Bool) (m : Int) (p' : Int → Bool) (m' u : Int) : Prop where
  mem : m' = u
  oth : ∀ v, v ≠ u → p' v = p v
  go : (p u = false ∧ p' u = true ∧ m < u) ∨ (p u = true ∧ p' u = false ∧ u < m)
def gp (F : List Int) (p : Int → Bool) (m w : Int) : Int := if m ≤ w then hv p (F.filter fun v => decide (w < v)) else hv p (F.filter fun v => decide (w < v)) - hx m (F.filter fun v => decide (w < v))
/-- how often one has gone, at the most -/
def psi (F : List Int) (p : Int → Bool) (m w : Int) : Int := 2 * max (-1) (gp F p m w) + (if p w then 1 else 0) + 2
theorem gp_hi (F : List Int) (p : Int → Bool) (m w : Int) : gp F p m w + 1 ≤ 2 ^ (F.filter fun v => decide (w < v)).length := by
  have h1 := hv_hi p (F.filter fun v => decide (w < v))
  have h2 := hx_1 m (F.filter fun v => decide (w < v))
  unfold gp
  split <;> omega
theorem psi_0 (F : List Int) (p : Int → Bool) (m w : Int) : 0 ≤ psi F p m w := by
  unfold psi
  split <;> omega
theorem psi_hi (F : List Int) (p : Int → Bool) (m w : Int) : psi F p m w ≤ 2 * 2 ^ (F.filter fun v => decide (w < v)).length + 1 := by
  have h1 := gp_hi F p m w
  have h2 : (1 : Int) ≤ 2 ^ (F.filter fun v => decide (w < v)).length := Int.pow_pos (by decide)
  unfold psi
  split <;> omega
theorem psi_step {F : List Int} (hF : F.Pairwise (· < ·)) {p p' : Int → Bool} {m m' u : Int} (hu : u ∈ F) (s : DS p m p' m' u) (w : Int) : psi F p m w + (if u = w then 1 else 0) ≤ psi F p' m' w := by
  have hL : (F.filter fun v => decide (w < v)).Pairwise (· < ·) := hF.sublist List.filter_sublist
  have mL : ∀ v, v ∈ (F.filter fun v => decide (w < v)) ↔ v ∈ F ∧ w < v := fun v => by simp [List.mem_filter]
  unfold psi gp
  generalize (F.filter fun v => decide (w < v)) = L at hL mL
  have hx1 := hx_1 m L
  have hv0 := hv_0 p L
  have em := s.mem
  subst em
  by_cases hw : m' ≤ w
  · have e := hv_same (p := p) (p' := p') (L := L) fun v hv => s.oth v (by have := ((mL v).mp hv).2; omega)
    rw [e, if_pos hw]
    by_cases ew : m' = w
    · subst ew
      rcases s.go with ⟨h1, h2, h3⟩ | ⟨h1, h2, h3⟩
      · rw [if_pos (show m ≤ m' by omega)]
        simp only [h1, h2, if_true, Bool.false_eq_true, if_false]
        omega
      · rw [if_neg (show ¬ m ≤ m' by omega)]
        simp only [h1, h2, if_true, Bool.false_eq_true, if_false]
        omega
    · rw [if_neg ew, s.oth w (Ne.symm ew)]
      split <;> omega
  · have uL : m' ∈ L := (mL m').mpr ⟨hu, by omega⟩
    rw [if_neg hw, if_neg (show ¬ m' = w by omega), s.oth w (by omega)]
    rcases s.go with ⟨h1, h2, h3⟩ | ⟨h1, h2, h3⟩
    · have e := hv_set hL uL s.oth h1 h2
      rw [e]
      split <;> omega
    · have e := hv_set hL uL (fun v hv => (s.oth v hv).symm) h2 h1
      have d := hx_dbl hL uL h3
      rw [e, if_neg (show ¬ m ≤ w by omega)]
      omega
/-- the same of depths: all turned about -/
def psiN (F : List Int) (p : Int → Bool) (m w : Int) : Int := psi (F.map fun v => -v).reverse (fun v => !p (-v)) (-m) (-w)
theorem DS.neg {p p' : Int → Bool} {m m' u : Int} (s : DS p m p' m' u) : DS (fun v => !p (-v)) (-m) (fun v => !p' (-v)) (-m') (-u) := by
  refine ⟨by rw [s.mem], fun v hv => ?_, ?_⟩
  · rw [s.oth (-v) (by omega)]
  · simp only [Int.neg_neg]
    rcases s.go with ⟨h1, h2, h3⟩ | ⟨h1, h2, h3⟩
    · exact .inr ⟨by simp [h1], by simp [h2], by omega⟩
    · exact .inl ⟨by simp [h1], by simp [h2], by omega⟩
theorem negF {F : List Int} (hF : F.Pairwise (· < ·)) : (F.map fun v => -v).reverse.Pairwise (· < ·) := by
  rw [List.pairwise_reverse, List.pairwise_map]
  exact hF.imp fun h => by omega
theorem negL {F : List Int} {w : Int} : ((F.map fun v => -v).reverse.filter fun v => decide (-w < v)).length = (F.filter fun v => decide (v < w)).length := by
  rw [List.filter_reverse, List.length_reverse, List.filter_map, List.length_map]
  congr 1
  refine List.filter_congr fun v _ => ?_
  simp only [Function.comp]
  exact decide_eq_decide.mpr (by omega)
theorem psiN_0 (F : List Int) (p : Int → Bool) (m w : Int) : 0 ≤ psiN F p m w := psi_0 _ _ _ _
theorem psiN_hi (F : List Int) (p : Int → Bool) (m w : Int) : psiN F p m w ≤ 2 * 2 ^ (F.filter fun v => decide (v < w)).length + 1 := by
  have := psi_hi (F.map fun v => -v).reverse (fun v => !p (-v)) (-m) (-w)
  rw [negL] at this
  exact this
theorem psiN_step {F : List Int} (hF : F.Pairwise (· < ·)) {p p' : Int → Bool} {m m' u : Int} (hu : u ∈ F) (s : DS p m p' m' u) (w : Int) : psiN F p m w + (if u = w then 1 else 0) ≤ psiN F p' m' w := by
  have := psi_step (negF hF) (u := -u) (by simpa using hu) s.neg (-w)
  have e : (if -u = -w then (1 : Int) else 0) = if u = w then 1 else 0 := by
    by_cases h : u = w
    · rw [if_pos h, if_pos (by omega)]
    · rw [if_neg h, if_neg (by omega)]
  rw [e] at this
  exact this
def pot1 (F : List Int) (p : Int → Bool) (m w : Int) : Int := if (F.filter fun v => decide (w < v)).length ≤ (F.filter fun v => decide (v < w)).length then psi F p m w else psiN F p m w
theorem pot1_0 (F : List Int) (p : Int → Bool) (m w : Int) : 0 ≤ pot1 F p m w := by
  unfold pot1
  split
  · exact psi_0 _ _ _ _
  · exact psiN_0 _ _ _ _
theorem two_part {F : List Int} (hF : F.Pairwise (· < ·)) {w : Int} (hw : w ∈ F) : (F.filter fun v => decide (w < v)).length + (F.filter fun v => decide (v < w)).length + 1 ≤ F.length := by
  induction F with
  | nil => simp at hw
  | cons a F ih =>
    obtain ⟨h1, h2⟩ := List.pairwise_cons.mp hF
    rcases List.mem_cons.mp hw with rfl | hw
    · have e1 : (F.filter fun v => decide (w < v)) = F := List.filter_eq_self.mpr fun v hv => by simpa using h1 v hv
      have e2 : (F.filter fun v => decide (v < w)) = [] := List.filter_eq_nil_iff.mpr fun v hv => by have := h1 v hv; simp; omega
      simp [List.filter_cons, e1, e2]
    · have := ih h2 hw
      have h3 := h1 w hw
      have n : ¬ w < a := by omega
      simp only [List.filter_cons, n, h3, decide_true, decide_false, if_true, Bool.false_eq_true, if_false, List.length_cons]
      omega
theorem pot1_hi {F : List Int} (hF : F.Pairwise (· < ·)) (p : Int → Bool) (m : Int) {w : Int} (hw : w ∈ F) : pot1 F p m w ≤ 2 * 2 ^ ((F.length - 1) / 2) + 1 := by
  have tp := two_part hF hw
  unfold pot1
  split
  · have h1 := psi_hi F p m w
    have h2 : (2 : Int) ^ (F.filter fun v => decide (w < v)).length ≤ 2 ^ ((F.length - 1) / 2) := by
      have := Nat.pow_le_pow_right (n := 2) (by decide) (show (F.filter fun v => decide (w < v)).length ≤ (F.length - 1) / 2 by omega)
      exact_mod_cast this
    omega
  · have h1 := psiN_hi F p m w
    have h2 : (2 : Int) ^ (F.filter fun v => decide (v < w)).length ≤ 2 ^ ((F.length - 1) / 2) := by
      have := Nat.pow_le_pow_right (n := 2) (by decide) (show (F.filter fun v => decide (v < w)).length ≤ (F.length - 1) / 2 by omega)
      exact_mod_cast this
    omega
theorem pot1_step {F : List Int} (hF : F.Pairwise (· < ·)) {p p' : Int → Bool} {m m' u : Int} (hu : u ∈ F) (s : DS p m p' m' u) (w : Int) : pot1 F p m w + (if u = w then 1 else 0) ≤ pot1 F p' m' w := by
  unfold pot1
  split
  · exact psi_step hF hu s w
  · exact psiN_step hF hu s w
theorem sum_step {f g : Int → Int} : ∀ {F : List Int}, (∀ w ∈ F, f w ≤ g w) → (F.map f).sum ≤ (F.map g).sum
  | [], _ => by simp
  | w :: F, h => by
    have h1 := h w List.mem_cons_self
    have h2 := sum_step (F := F) fun v hv => h v (List.mem_cons_of_mem _ hv)
    simp only [List.map_cons, List.sum_cons]
    omega
theorem sum_step1 {f g : Int → Int} {u : Int} : ∀ {F : List Int}, u ∈ F → (∀ w ∈ F, f w + (if u = w then 1 else 0) ≤ g w) → (F.map f).sum + 1 ≤ (F.map g).sum
  | [], hu, _ => nomatch hu
  | w :: F, hu, h => by
    have h1 := h w List.mem_cons_self
    have h2 := fun v hv => h v (List.mem_cons_of_mem _ hv)
    simp only [List.map_cons, List.sum_cons]
    by_cases e : u = w
    · rw [if_pos e] at h1
      have := sum_step (F := F) (f := f) (g := g) fun v hv => by have := h2 v hv; split at this <;> omega
      omega
    · have := sum_step1 ((List.mem_cons.mp hu).resolve_left e) h2
      rw [if_neg e] at h1
      omega
theorem sumN_step {f g : Nat → Int} : ∀ {F : List Nat}, (∀ w ∈ F, f w ≤ g w) → (F.map f).sum ≤ (F.map g).sum
  | [], _ => by simp
  | w :: F, h => by
    have h1 := h w List.mem_cons_self
    have h2 := sumN_step (F := F) fun v hv => h v (List.mem_cons_of_mem _ hv)
    simp only [List.map_cons, List.sum_cons]
    omega
theorem sumN_step1 {f g : Nat → Int} {u : Nat} : ∀ {F : List Nat}, u ∈ F → (∀ w ∈ F, f w + (if u = w then 1 else 0) ≤ g w) → (F.map f).sum + 1 ≤ (F.map g).sum
  | [], hu, _ => nomatch hu
  | w :: F, hu, h => by
    have h1 := h w List.mem_cons_self
    have h2 := fun v hv => h v (List.mem_cons_of_mem _ hv)
    simp only [List.map_cons, List.sum_cons]
    by_cases e : u = w
    · rw [if_pos e] at h1
      have := sumN_step (F := F) (f := f) (g := g) fun v hv => by have := h2 v hv; split at this <;> omega
      omega
    · have := sumN_step1 ((List.mem_cons.mp hu).resolve_left e) h2
      rw [if_neg e] at h1
      omega
theorem sum_hi {f : Int → Int} {c : Int} : ∀ {F : List Int}, (∀ w ∈ F, f w ≤ c) → (F.map f).sum ≤ F.length * c
  | [], _ => by simp
  | w :: F, h => by
    have h1 := h w List.mem_cons_self
    have h2 := sum_hi (F := F) fun v hv => h v (List.mem_cons_of_mem _ hv)
    simp only [List.map_cons, List.sum_cons, List.length_cons, Int.natCast_add, Int.add_mul]
    omega
theorem sumN_hi {f : Nat → Int} {c : Int} : ∀ {F : List Nat}, (∀ w ∈ F, f w ≤ c) → (F.map f).sum ≤ F.length * c
  | [], _ => by simp
  | w :: F, h => by
    have h1 := h w List.mem_cons_self
    have h2 := sumN_hi (F := F) fun v hv => h v (List.mem_cons_of_mem _ hv)
    simp only [List.map_cons, List.sum_cons, List.length_cons, Int.natCast_add, Int.add_mul]
    omega
theorem sumN_0 {f : Nat → Int} : ∀ {F : List Nat}, (∀ w ∈ F, 0 ≤ f w) → 0 ≤ (F.map f).sum
  | [], _ => by simp
  | w :: F, h => by
    have h1 := h w List.mem_cons_self
    have h2 := sumN_0 (F := F) fun v hv => h v (List.mem_cons_of_mem _ hv)
    simp only [List.map_cons, List.sum_cons]
    omega
theorem sumI_0 {f : Int → Int} : ∀ {F : List Int}, (∀ w ∈ F, 0 ≤ f w) → 0 ≤ (F.map f).sum
  | [], _ => by simp
  | w :: F, h => by
    have h1 := h w List.mem_cons_self
    have h2 := sumI_0 (F := F) fun v hv => h v (List.mem_cons_of_mem _ hv)
    simp only [List.map_cons, List.sum_cons]
    omega
/-- beyond the k-th door (from 0) -/
def bey (R : List (List Int)) (k : Nat) (v : Int) : Bool := decide (v ∈ (R.drop (k + 1)).flatten)
theorem bey_iff {R : List (List Int)} {k : Nat} {v : Int} : bey R k v = true ↔ ∃ i, k < i ∧ v ∈ R.getD i [] := by
  rw [bey, decide_eq_true_eq, List.mem_flatten]
  constructor
  · rintro ⟨r, hr, hv⟩
    obtain ⟨j, hj⟩ := List.mem_iff_getElem?.mp hr
    rw [List.getElem?_drop] at hj
    exact ⟨k + 1 + j, by omega, by rw [List.getD_eq_getElem?_getD, hj]; exact hv⟩
  · rintro ⟨i, hi, hv⟩
    rw [List.getD_eq_getElem?_getD] at hv
    cases e : R[i]? with
    | none => rw [e] at hv; simp at hv
    | some r =>
      rw [e] at hv
      exact ⟨r, List.mem_iff_getElem?.mpr ⟨i - (k + 1), by rw [List.getElem?_drop, show k + 1 + (i - (k + 1)) = i by omega]; exact e⟩, hv⟩
theorem mem_behF {R : List (List Int)} {w v : Int} {k i : Nat} (hk : k + 1 < R.length) (c : w ∈ R.getD k []) : v ∈ (behR R w k).getD i [] ↔ (i = k ∧ v ∈ R.getD k [] ∧ v ≠ w) ∨ (i = k + 1 ∧ (v ∈ R.getD (k + 1) [] ∨ v = w)) ∨ (i ≠ k ∧ i ≠ k + 1 ∧ v ∈ R.getD i []) := by
  simp only [behR, if_pos c]
  rw [set_getD (by rw [List.length_set]; omega), set_getD (by omega)]
  by_cases e1 : i = k + 1
  · subst e1
    rw [if_pos rfl, isrt_mem]
    simp
  · rw [if_neg e1]
    by_cases e2 : i = k
    · subst e2
      rw [if_pos rfl]
      simp
    · rw [if_neg e2]
      simp [e1, e2]
theorem mem_behB {R : List (List Int)} {w v : Int} {k i : Nat} (hk : k + 1 < R.length) (c : ¬ w ∈ R.getD k []) : v ∈ (behR R w k).getD i [] ↔ (i = k + 1 ∧ v ∈ R.getD (k + 1) [] ∧ v ≠ w) ∨ (i = k ∧ (v ∈ R.getD k [] ∨ v = w)) ∨ (i ≠ k ∧ i ≠ k + 1 ∧ v ∈ R.getD i []) := by
  simp only [behR, if_neg c]
  rw [set_getD (by rw [List.length_set]; omega), set_getD (by omega)]
  by_cases e1 : i = k
  · subst e1
    rw [if_pos rfl, isrt_mem]
    simp
  · rw [if_neg e1]
    by_cases e2 : i = k + 1
    · subst e2
      rw [if_pos rfl]
      simp
    · rw [if_neg e2]
      simp [e1, e2]
theorem bool_ext {a b : Bool} (h : a = true ↔ b = true) : a = b := by cases a <;> cases b <;> simp_all
theorem bey_step {folk : List Int} {d : Nat} {R : List (List Int)} {D : List Int} (f : Fk folk) (h : Hou folk d R D) {w : Int} {k : Nat} (hk : k < d) (l : Let R D w k) : DS (bey R k) (D.getD k 0) (bey (behR R w k) k) w w := by
  have hlr := h.lr
  have hk1 : k + 1 < R.length := by omega
  rcases l with ⟨c, l⟩ | ⟨c, c2, l⟩
  · refine ⟨rfl, fun v hv => bool_ext ?_, .inl ⟨?_, ?_, l⟩⟩
    · rw [bey_iff, bey_iff]
      refine exists_congr fun i => and_congr_right fun hi => ?_
      rw [mem_behF hk1 c]
      constructor
      · rintro (⟨e, _⟩ | ⟨e, h1 | h1⟩ | ⟨_, _, h1⟩)
        · omega
        · rw [e]; exact h1
        · exact absurd h1 hv
        · exact h1
      · intro h1
        by_cases e : i = k + 1
        · exact .inr (.inl ⟨e, .inl (by rw [← e]; exact h1)⟩)
        · exact .inr (.inr ⟨by omega, e, h1⟩)
    · rw [← Bool.not_eq_true, bey_iff]
      rintro ⟨i, hi, hv⟩
      exact h.one f hi c hv
    · rw [bey_iff]
      exact ⟨k + 1, by omega, beh_forth hk1 c⟩
  · refine ⟨rfl, fun v hv => bool_ext ?_, .inr ⟨?_, ?_, l⟩⟩
    · rw [bey_iff, bey_iff]
      refine exists_congr fun i => and_congr_right fun hi => ?_
      rw [mem_behB hk1 c]
      constructor
      · rintro (⟨e, h1, _⟩ | ⟨e, _⟩ | ⟨_, _, h1⟩)
        · rw [e]; exact h1
        · omega
        · exact h1
      · intro h1
        by_cases e : i = k + 1
        · exact .inl ⟨e, by rw [← e]; exact h1, hv⟩
        · exact .inr (.inr ⟨by omega, e, h1⟩)
    · rw [bey_iff]
      exact ⟨k + 1, by omega, c2⟩
    · rw [← Bool.not_eq_true, bey_iff]
      rintro ⟨i, hi, hv⟩
      rw [mem_behB hk1 c] at hv
      rcases hv with ⟨_, _, e⟩ | ⟨e, _⟩ | ⟨_, e, hv⟩
      · exact e rfl
      · omega
      · exact h.one f (show k + 1 < i by omega) c2 hv
theorem bey_other {folk : List Int} {d : Nat} {R : List (List Int)} {D : List Int} (h : Hou folk d R D) {w : Int} {k j : Nat} (hk : k < d) (l : Let R D w k) (hj : j ≠ k) : bey (behR R w k) j = bey R j := by
  have hlr := h.lr
  have hk1 : k + 1 < R.length := by omega
  funext v
  apply bool_ext
  rw [bey_iff, bey_iff]
  by_cases e : v = w
  · subst e
    rcases Nat.lt_or_gt_of_ne hj with hj | hj
    · constructor
      · intro _
        rcases l with ⟨c, l⟩ | ⟨c, c2, l⟩
        · exact ⟨k, hj, c⟩
        · exact ⟨k + 1, by omega, c2⟩
      · intro _
        rcases l with ⟨c, l⟩ | ⟨c, c2, l⟩
        · exact ⟨k + 1, by omega, beh_forth hk1 c⟩
        · exact ⟨k, hj, beh_back hk1 c⟩
    · refine exists_congr fun i => and_congr_right fun hi => ?_
      rw [beh_other hk1 (by omega) (by omega)]
  · refine exists_congr fun i => and_congr_right fun hi => ?_
    rcases l with ⟨c, l⟩ | ⟨c, c2, l⟩
    · rw [mem_behF hk1 c]
      by_cases e1 : i = k
      · subst e1; simp [e]
      · by_cases e2 : i = k + 1
        · subst e2; simp [e]
        · simp [e1, e2]
    · rw [mem_behB hk1 c]
      by_cases e1 : i = k
      · subst e1; simp [e]
      · by_cases e2 : i = k + 1
        · subst e2; simp [e]
        · simp [e1, e2]
/-- all goings there have been, at the most -/
def pot (F : List Int) (R : List (List Int)) (D : List Int) (d : Nat) : Int := ((List.range d).map fun k => (F.map fun w => pot1 F (bey R k) (D.getD k 0) w).sum).sum
theorem pot_0 (F : List Int) (R : List (List Int)) (D : List Int) (d : Nat) : 0 ≤ pot F R D d := sumN_0 fun k _ => sumI_0 fun w _ => pot1_0 _ _ _ _
theorem pot_hi {F : List Int} (hF : F.Pairwise (· < ·)) (R : List (List Int)) (D : List Int) (d : Nat) : pot F R D d ≤ d * (F.length * (2 * 2 ^ ((F.length - 1) / 2) + 1)) := by
  have := sumN_hi (F := List.range d) (f := fun k => (F.map fun w => pot1 F (bey R k) (D.getD k 0) w).sum) (c := F.length * (2 * 2 ^ ((F.length - 1) / 2) + 1)) fun k _ => sum_hi fun w hw => pot1_hi hF _ _ hw
  rw [List.length_range] at this
  exact this
theorem pot_step {folk : List Int} {d : Nat} {R : List (List Int)} {D : List Int} (f : Fk folk) (h : Hou folk d R D) {w : Int} {k : Nat} (hk : k < d) (l : Let R D w k) : pot folk R D d + 1 ≤ pot folk (behR R w k) (D.set k w) d := by
  have hw : w ∈ folk := by
    have hlr := h.lr
    have e0 : R[k]? = some (R.getD k []) := by rw [List.getD_eq_getElem?_getD, List.getElem?_eq_getElem (by omega)]; rfl
    have e1 : R[k + 1]? = some (R.getD (k + 1) []) := by rw [List.getD_eq_getElem?_getD, List.getElem?_eq_getElem (by omega)]; rfl
    rcases l with ⟨c, _⟩ | ⟨_, c, _⟩
    · exact h.mem (List.mem_of_getElem? e0) c
    · exact h.mem (List.mem_of_getElem? e1) c
  have hld := h.ld
  refine sumN_step1 (u := k) (List.mem_range.mpr hk) fun j hj => ?_
  by_cases e : k = j
  · subst e
    rw [if_pos rfl]
    refine sum_step1 hw fun v hv => ?_
    have := pot1_step f.srt hw (bey_step f h hk l) v
    rw [set_getD (by omega), if_pos rfl]
    exact this
  · rw [if_neg e, bey_other h hk l (Ne.symm e), set_getD (by omega), if_neg (Ne.symm e)]
    exact Int.le_of_eq (Int.add_zero _)
@[simp] theorem wO_notB {a b : Bool} {Q : Dt → Md → Prop} : wO (fNot [.b a, .b b]) Q = Q (.b (!decide (a = b))) .c := id rfl
@[simp] theorem wO_isB {a b : Bool} {Q : Dt → Md → Prop} : wO (fIs [.b a, .b b]) Q = Q (.b (decide (a = b))) .c := id rfl
@[simp] theorem okE_0 {r : Ev} {ys : List Dt} : okE 0 (some (.l ys, .c) :: r) = (flatL ys && r.all flS) := id rfl
@[simp] theorem okE_s {r : Ev} {i : Nat} {o : Option Vl} : okE (i + 1) (o :: r) = (flS o && okE i r) := id rfl
@[simp] theorem ownE_0 {r : Ev} {ys : List Dt} : ownE 0 (some (.l ys, .c) :: r) = some (.l ys, .t) :: r := id rfl
@[simp] theorem ownE_s {r : Ev} {i : Nat} {o : Option Vl} : ownE (i + 1) (o :: r) = o :: ownE i r := id rfl
@[simp] theorem flS_n : flS none = true := id rfl
@[simp] theorem flS_s {xm : Vl} : flS (some xm) = zfl xm := id rfl
@[simp] theorem allS_n : ([] : Ev).all flS = true := id rfl
@[simp] theorem allS_s {o : Option Vl} {r : Ev} : (o :: r).all flS = (flS o && r.all flS) := id rfl
@[simp] theorem wE_MtV {p : List Dt → Option Vl} {i : Nat} {as : List Am} {r : Ev} {Q : Vl → Ev → Prop} : wE (mMt p (.v i) as) r Q = (isL i r = true ∧ wE (mP p (.v i :: as)) r Q) := by
  unfold wE
  simp only [mMt, evA]
  cases h : r[i]? with
  | none => simp [isL, h]
  | some o =>
    cases o with
    | none => simp [isL, h]
    | some xm =>
      obtain ⟨x, m⟩ := xm
      simp only [look, h, Option.map_some]
      cases x <;> simp [isL, h, isLd]
@[simp] theorem wE_MtE {p : List Dt → Option Vl} {f : Ev → Ou Vl} {as : List Am} {r : Ev} {Q : Vl → Ev → Prop} : wE (mMt p (.e f) as) r Q = (wE f r (fun x _ => isLd x.1 = true) ∧ wE (mP p (.e f :: as)) r Q) := by
  unfold wE
  simp only [mMt, evA]
  cases h : f r with
  | ok xm r1 =>
    obtain ⟨x, m⟩ := xm
    simp only [look, Option.map_some]
    by_cases c : isLd x = true
    · simp [c]
    · simp [c]
  | ex c fs r1 => simp
  | no => simp
@[simp] theorem isLd_l {xs : List Dt} : isLd (.l xs) = true := id rfl
end Y
namespace Y
open PySem L2 PyProof.Rows
/-- goings, each let, from one house to another -/
inductive Run (d : Nat) (R0 : List (List Int)) (D0 : List Int) : List (Int × Int) → List (List Int) → List Int → Prop
  | nil : Run d R0 D0 [] R0 D0
  | snoc {ps : List (Int × Int)} {R : List (List Int)} {D : List Int} {w : Int} {k : Nat} : Run d R0 D0 ps R D → k < d → Let R D w k → Run d R0 D0 (ps ++ [(w, (k : Int) + 1)]) (behR R w k) (D.set k w)
section
variable {folk : List Int} {d : Nat} {R0 R : List (List Int)} {D0 D : List Int} {ps : List (Int × Int)}
theorem Run.hou (f : Fk folk) (h0 : Hou folk d R0 D0) (h : Run d R0 D0 ps R D) : Hou folk d R D := by
  induction h with
  | nil => exact h0
  | snoc _ hk l ih => exact l.hou f ih hk
theorem Run.unw (f : Fk folk) (h0 : Hou folk d R0 D0) (h : Run d R0 D0 ps R D) : ∀ z ∈ unwellL R D, z ∈ unwellL R0 D0 := by
  induction h with
  | nil => exact fun z hz => hz
  | snoc h hk l ih => exact fun z hz => ih z (unwell_step f (h.hou f h0) hk l hz)
theorem Let.mem (h : Hou folk d R D) {w : Int} {k : Nat} (hk : k < d) (l : Let R D w k) : w ∈ folk := by
  have hlr := h.lr
  have e0 : R[k]? = some (R.getD k []) := by rw [List.getD_eq_getElem?_getD, List.getElem?_eq_getElem (by omega)]; rfl
  have e1 : R[k + 1]? = some (R.getD (k + 1) []) := by rw [List.getD_eq_getElem?_getD, List.getElem?_eq_getElem (by omega)]; rfl
  rcases l with ⟨c, _⟩ | ⟨_, c, _⟩
  · exact h.mem (List.mem_of_getElem? e0) c
  · exact h.mem (List.mem_of_getElem? e1) c
theorem Run.pot (f : Fk folk) (h0 : Hou folk d R0 D0) (h : Run d R0 D0 ps R D) : Y.pot folk R0 D0 d + ps.length ≤ Y.pot folk R D d := by
  induction h with
  | nil => simp
  | snoc h hk l ih =>
    have := pot_step f (h.hou f h0) hk l
    rw [List.length_append, List.length_singleton]
    omega
theorem Run.len (f : Fk folk) (h0 : Hou folk d R0 D0) (h : Run d R0 D0 ps R D) : (ps.length : Int) ≤ d * (folk.length * (2 * 2 ^ ((folk.length - 1) / 2) + 1)) := by
  have h1 := h.pot f h0
  have h2 := pot_hi f.srt R D d
  have h3 := pot_0 folk R0 D0 d
  omega
theorem pair_ne {w v : Int} {k j : Nat} : ((w, (k : Int) + 1) = (v, (j : Int) + 1)) ↔ (w = v ∧ k = j) := by
  constructor
  · intro h
    injection h with h1 h2
    exact ⟨h1, by omega⟩
  · rintro ⟨rfl, rfl⟩; rfl
theorem count_snoc {w v : Int} {k j : Nat} : (ps ++ [(w, (k : Int) + 1)]).count (v, (j : Int) + 1) = ps.count (v, (j : Int) + 1) + if w = v ∧ k = j then 1 else 0 := by
  rw [List.count_append, List.count_singleton]
  congr 1
  by_cases c : w = v ∧ k = j
  · rw [if_pos c, if_pos (by rw [beq_iff_eq]; exact pair_ne.mpr c)]
  · rw [if_neg c, if_neg (by rw [beq_iff_eq]; exact fun e => c (pair_ne.mp e))]
/-- how often each goes by each door -/
theorem Run.cnt (f : Fk folk) (h0 : Hou folk d R0 D0) (h : Run d R0 D0 ps R D) (v : Int) {j : Nat} (hj : j < d) :
    psi folk (bey R0 j) (D0.getD j 0) v + (ps.count (v, (j : Int) + 1) : Nat) ≤ psi folk (bey R j) (D.getD j 0) v ∧ psiN folk (bey R0 j) (D0.getD j 0) v + (ps.count (v, (j : Int) + 1) : Nat) ≤ psiN folk (bey R j) (D.getD j 0) v := by
  induction h with
  | nil => simp
  | @snoc ps R D w k h hk l ih =>
    have hh := h.hou f h0
    have hld := hh.ld
    have hw := l.mem hh hk
    rw [count_snoc, set_getD (by omega)]
    by_cases e : j = k
    · subst e
      have s := bey_step f hh hk l
      have s1 := psi_step f.srt hw s v
      have s2 := psiN_step f.srt hw s v
      rw [if_pos rfl]
      by_cases e2 : w = v
      · rw [if_pos e2] at s1 s2
        rw [if_pos ⟨e2, rfl⟩]
        omega
      · rw [if_neg e2] at s1 s2
        rw [if_neg fun c => e2 c.1]
        omega
    · rw [if_neg e, if_neg (fun c => e c.2.symm), bey_other hh hk l e]
      omega
/-- a new house -/
theorem hv_none {L : List Int} : hv (fun _ => false) L = 0 := by
  induction L with
  | nil => rfl
  | cons a L ih => simp [hv, ih]
theorem hv_all {L : List Int} : hv (fun _ => true) L = 2 ^ L.length - 1 := by
  induction L with
  | nil => rfl
  | cons a L ih =>
    simp only [hv, ih, if_true, List.length_cons, Int.pow_succ]
    omega
theorem hx_all {m : Int} : ∀ {L : List Int}, (∀ v ∈ L, v < m) → hx m L = 2 ^ L.length
  | [], _ => rfl
  | v :: L, h => by
    have h1 := h v List.mem_cons_self
    simp only [hx, if_neg (show ¬ m ≤ v by omega), hx_all fun u hu => h u (List.mem_cons_of_mem _ hu), List.length_cons, Int.pow_succ]
    omega
theorem new_bey {d j : Nat} {v : Int} : bey (folk :: List.replicate d []) j v = false := by
  rw [← Bool.not_eq_true, bey_iff]
  rintro ⟨i, hi, hv⟩
  obtain ⟨i, rfl⟩ : ∃ k, i = k + 1 := ⟨i - 1, by omega⟩
  rw [List.getD_cons_succ, List.getD_eq_getElem?_getD, List.getElem?_replicate] at hv
  split at hv <;> simp at hv
theorem new_psi (f : Fk folk) {p : Int → Bool} (hp : ∀ v, p v = false) {w : Int} (hw : 1 ≤ w) : psi folk p 0 w = 2 ∧ psiN folk p 0 w = 1 := by
  have ep : p = fun _ => false := funext hp
  subst ep
  constructor
  · unfold psi gp
    rw [if_pos (by omega), hv_none]
    rfl
  · unfold psiN psi gp
    rw [if_neg (show ¬ -0 ≤ -w by omega)]
    have e : ∀ v ∈ ((folk.map fun v => -v).reverse.filter fun v => decide (-w < v)), v < -0 := fun v hv => by
      have := (List.mem_filter.mp hv).1
      rw [List.mem_reverse, List.mem_map] at this
      obtain ⟨u, hu, rfl⟩ := this
      have := f.bd u hu
      omega
    rw [hx_all e]
    have e2 : (fun v : Int => !(fun _ => false) (-v)) = fun _ => true := rfl
    rw [e2, hv_all]
    have : max (-1 : Int) (2 ^ ((folk.map fun v => -v).reverse.filter fun v => decide (-w < v)).length - 1 - 2 ^ ((folk.map fun v => -v).reverse.filter fun v => decide (-w < v)).length) = -1 := by omega
    rw [this]
    rfl
theorem Run.new (f : Fk folk) (h : Run d (folk :: List.replicate d []) (List.replicate d 0) ps R D) (h0 : Hou folk d (folk :: List.replicate d []) (List.replicate d 0)) {v : Int} (hv : v ∈ folk) {j : Nat} (hj : j < d) :
    ((ps.count (v, (j : Int) + 1) : Nat) : Int) ≤ 2 * 2 ^ (folk.filter fun u => decide (v < u)).length - 1 ∧ ((ps.count (v, (j : Int) + 1) : Nat) : Int) ≤ 2 * 2 ^ (folk.filter fun u => decide (u < v)).length := by
  have hc := h.cnt f h0 v hj
  have ez : (List.replicate d (0 : Int)).getD j 0 = 0 := by rw [List.getD_eq_getElem?_getD, List.getElem?_replicate]; split <;> rfl
  have hb := f.bd v hv
  obtain ⟨n1, n2⟩ := new_psi f (p := bey (folk :: List.replicate d []) j) (fun u => new_bey) (w := v) (by omega)
  rw [ez, n1, n2] at hc
  have h1 := psi_hi folk (bey R j) (D.getD j 0) v
  have h2 := psiN_hi folk (bey R j) (D.getD j 0) v
  omega
/-- all together -/
theorem Run.sum (f : Fk folk) (h0 : Hou folk d R0 D0) (h : Run d R0 D0 ps R D) : (ps.length : Int) ≤ ((List.range d).map fun k : Nat => (folk.map fun w => ((ps.count (w, (k : Int) + 1) : Nat) : Int)).sum).sum := by
  induction h with
  | nil => exact sumN_0 fun k _ => sumI_0 fun w _ => by omega
  | @snoc ps R D w k h hk l ih =>
    have hh := h.hou f h0
    have hw := l.mem hh hk
    rw [List.length_append, List.length_singleton]
    have := sumN_step1 (f := fun k : Nat => (folk.map fun w => ((ps.count (w, (k : Int) + 1) : Nat) : Int)).sum) (g := fun j : Nat => (folk.map fun v => (((ps ++ [(w, (k : Int) + 1)]).count (v, (j : Int) + 1) : Nat) : Int)).sum) (u := k) (F := List.range d) (List.mem_range.mpr hk) fun j hj => by
      by_cases e : k = j
      · subst e
        rw [if_pos rfl]
        refine sum_step1 hw fun v hv => ?_
        rw [count_snoc]
        by_cases e : w = v
        · simp [e]
        · simp [e]
      · rw [if_neg e, Int.add_zero]
        exact sum_step fun v hv => by rw [count_snoc]; simp [e]
    omega
end
@[simp] theorem wZ_pr {Q : Ev → Prop} {ag : List Ag} {r : Ev} {p : Int × Int} : wZ (pr p) ag r Q = Q r := id rfl
@[simp] theorem wZ_hs {Q : Ev → Prop} {ag : List Ag} {r : Ev} {R : List (List Int)} {D : List Int} : wZ (hs R D) ag r Q = Q r := by
  unfold wZ
  rw [flat_hs, if_pos rfl]
section
variable {folk : List Int} {d : Nat} {R0 R R' : List (List Int)} {D0 D D' : List Int} {ps : List (Int × Int)}
theorem Run.last {q : Int × Int} (h : Run d R0 D0 (ps ++ [q]) R D) : ∃ (R1 : List (List Int)) (D1 : List Int) (w : Int) (k : Nat), Run d R0 D0 ps R1 D1 ∧ k < d ∧ Let R1 D1 w k ∧ q = (w, (k : Int) + 1) ∧ R = behR R1 w k ∧ D = D1.set k w := by
  generalize e : ps ++ [q] = qs at h
  cases h with
  | nil => simp at e
  | @snoc ps' R1 D1 w k h hk l =>
    obtain ⟨e1, e2⟩ := List.append_inj' e rfl
    subst e1
    cases e2
    exact ⟨R1, D1, w, k, h, hk, l, rfl, rfl, rfl⟩
theorem Run.det (h : Run d R0 D0 ps R D) : Run d R0 D0 ps R' D' → R = R' ∧ D = D' := by
  induction h generalizing R' D' with
  | nil =>
    intro h2
    generalize e : ([] : List (Int × Int)) = qs at h2
    cases h2 with
    | nil => exact ⟨rfl, rfl⟩
    | snoc _ _ _ => simp at e
  | snoc h hk l ih =>
    intro h2
    obtain ⟨R1, D1, w', k', h3, _, _, e, rfl, rfl⟩ := h2.last
    obtain ⟨rfl, rfl⟩ := ih h3
    obtain ⟨rfl, rfl⟩ := pair_ne.mp e
    exact ⟨rfl, rfl⟩
theorem Run.at_ (h : Run d R0 D0 ps R D) : ∀ {k : Nat} {q : Int × Int}, ps[k]? = some q → ∃ (R1 : List (List Int)) (D1 : List Int) (w : Int) (j : Nat), Run d R0 D0 (ps.take k) R1 D1 ∧ j < d ∧ Let R1 D1 w j ∧ q = (w, (j : Int) + 1) := by
  induction h with
  | nil => intro k q h; simp at h
  | @snoc ps R1 D1 w j h hj l ih =>
    intro k q hq
    by_cases c : k < ps.length
    · rw [List.getElem?_append_left c] at hq
      obtain ⟨R2, D2, w2, j2, g1, g2, g3, g4⟩ := ih hq
      exact ⟨R2, D2, w2, j2, by rw [List.take_append_of_le_length (by omega)]; exact g1, g2, g3, g4⟩
    · have e : k = ps.length := by
        have := (List.getElem?_eq_some_iff.mp hq).1
        rw [List.length_append, List.length_singleton] at this
        omega
      subst e
      rw [List.getElem?_append_right (Nat.le_refl _), Nat.sub_self] at hq
      cases hq
      exact ⟨R1, D1, w, j, by rw [List.take_left']; exact h; rfl, hj, l, rfl⟩
end
end Y
namespace Y
open PySem L2 PyProof.Rows
section
variable {c f m : Str} {r r1 r2 : Ev} {x y : Dt} {xs ys : List Dt} {ns : List Str} {fs : List Dt} {w : List IR}
def isO1 (c m : Str) : List Dt → Bool
  | [x] => isO c m x
  | _ => false
@[simp] theorem wE_Me {fn : Fn} {A : Am} {as : List Am} {Q : Vl → Ev → Prop} : wE (mMe c m fn A as) r Q = (wA [A] r (fun ys r1 => wL (look r1 ys) fun xs => isO1 c m xs = true) ∧ wE (mC fn (A :: as)) r Q) := by
  unfold wE wA wL
  simp only [mMe]
  cases h1 : evA [A] r with
  | no => simp
  | ex c fs r1 => simp
  | ok ys r1 =>
    simp only
    cases h2 : look r1 ys with
    | none => simp
    | some xs =>
      match xs with
      | [] => simp [isO1]
      | [x] =>
        simp only [isO1]
        by_cases h : isO c m x = true
        · simp [h]
        · simp [h]
      | x :: y :: z => simp [isO1]
def wTl (r1 : Ev) (k : Ev → Prop) : Prop := match r1 with
  | some (_, .c) :: r2 => k r2
  | _ => False
@[simp] theorem wTl_c {k : Ev → Prop} : wTl (some (x, .c) :: r2) k = k r2 := id rfl
def wR (c : Str) (w : List IR) (r : Ev) (ns : List Str) (fs : List Dt) (Q : List Str → List Dt → Prop) : Prop := match iRun c w r ns fs with
  | some (ns, fs) => Q ns fs
  | none => False
@[simp] theorem wFn_fnMk {pad : Nat} {vs : List Vl} {Q : Vl → Vl → Prop} : wFn (fnMk c pad w) vs Q = wR c w (vs.map some ++ List.replicate pad none) [] [] fun ns fs => Q (.o c ns fs, .c) (.n, .c) := by
  unfold wFn wR
  simp only [fnMk]
  cases iRun c w (vs.map some ++ List.replicate pad none) [] [] <;> rfl
@[simp] theorem wR_nil {Q : List Str → List Dt → Prop} : wR c [] r ns fs Q = Q ns fs := id rfl
@[simp] theorem wR_fld {g : Ev → Ou Vl} {Q : List Str → List Dt → Prop} : wR c (.fld f g :: w) r ns fs Q = wE g (some (.o c ns fs, .c) :: r) fun x r1 => wTl r1 fun r2 => nob x.1 = true ∧ nobE r2 = true ∧ ns.contains f = false ∧ ns.length < 900 ∧ wR c w r2 (ns ++ [f]) (fs ++ [x.1]) Q := by
  unfold wR wE wTl
  simp only [iRun]
  cases hg : g (some (.o c ns fs, .c) :: r) with
  | no => simp
  | ex c fs r1 => simp
  | ok xm r1 =>
    obtain ⟨x, mm⟩ := xm
    simp only
    match r1 with
    | [] => rfl
    | none :: r2 => rfl
    | some (y, .t) :: r2 => rfl
    | some (y, .a) :: r2 => rfl
    | some (y, .c) :: r2 =>
      simp only
      by_cases h : (nob x && nobE r2 && !ns.contains f && decide (ns.length < 900)) = true
      · rw [if_pos h]
        simp only [Bool.and_eq_true, Bool.not_eq_true', decide_eq_true_eq] at h
        simp only [h.1.1.1, h.1.1.2, h.1.2, h.2, true_and]
      · rw [if_neg h]
        refine propext ⟨fun z => z.elim, fun ⟨h1, h2, h3, h4, _⟩ => h ?_⟩
        simp only [h1, h2, h3, h4, decide_true, Bool.and_true, Bool.not_false]
@[simp] theorem wR_st {s : Ev → So} {Q : List Str → List Dt → Prop} : wR c (.st s :: w) r ns fs Q = wS s (some (.o c ns fs, .c) :: r) (fun r1 => wTl r1 fun r2 => nobE r2 = true ∧ wR c w r2 ns fs Q) (fun _ _ => False) (fun _ => False) (fun _ => False) := by
  unfold wR wS wTl
  simp only [iRun]
  cases hs : s (some (.o c ns fs, .c) :: r) with
  | nx r1 =>
    simp only
    match r1 with
    | [] => rfl
    | none :: r2 => rfl
    | some (y, .t) :: r2 => rfl
    | some (y, .a) :: r2 => rfl
    | some (y, .c) :: r2 =>
      simp only
      by_cases h : nobE r2 = true
      · simp [h]
      · simp [h]
  | rt x r1 => simp
  | bk r1 => simp
  | ct r1 => simp
  | ex c fs r1 => simp
  | no => simp
@[simp] theorem wS_forH {fs : List (Ev → Ou Vl)} {t : Vl → Ev → Option Ev} {body : Ev → So} {Qn : Ev → Prop} {Qr : Vl → Ev → Prop} {Qb Qc : Ev → Prop} : wS (sForH fs t body) r Qn Qr Qb Qc = wH fs r fun vs r1 => vs.length ≤ LIM ∧ wS (forH t body vs) r1 Qn Qr Qb Qc := by
  unfold wH
  cases h : evH fs r with
  | no => unfold wS; simp only [sForH, h]
  | ex c fs r1 => unfold wS; simp only [sForH, h]
  | ok vs r1 =>
    by_cases hl : vs.length ≤ LIM
    · have e : sForH fs t body r = forH t body vs r1 := by simp only [sForH, h]; exact if_pos hl
      unfold wS
      rw [e]
      simp only [hl, true_and]
    · have e : sForH fs t body r = .no := by simp only [sForH, h]; exact if_neg hl
      unfold wS
      rw [e]
      simp only [hl, false_and]
@[simp] theorem wO_divmod {a b : Int} {Q : Dt → Md → Prop} : wO (fDivmod [.i a, .i b]) Q = (0 < b ∧ b < 1073741824 ∧ Q (.t [.i (a / b), .i (a % b)]) .c) := by
  show wO (if (decide (0 < b) && decide (b < 1073741824)) = true then some (.t [.i (a / b), .i (a % b)], .c) else none) Q = _
  by_cases h : (decide (0 < b) && decide (b < 1073741824)) = true
  · rw [if_pos h]
    simp only [Bool.and_eq_true, decide_eq_true_eq] at h
    simp only [wO_some, h.1, h.2, true_and]
  · rw [if_neg h]
    refine propext ⟨fun z => z.elim, fun ⟨h1, h2, _⟩ => h ?_⟩
    simp only [h1, h2, decide_true, Bool.and_true]
@[simp] theorem wO_lrg {i j : Int} {Q : Dt → Md → Prop} : wO (fLrg [.i i, .i j, .i (-1)]) Q = (-(2 ^ 60) ≤ i ∧ i ≤ 2 ^ 60 ∧ -(2 ^ 60) ≤ j ∧ j ≤ 2 ^ 60 ∧ i - j ≤ LIM ∧ Q (.l (rngC i (-1) (i - j).toNat)) .t) := by
  show wO (if (-1 : Int) = -1 ∧ -(2 ^ 60) ≤ i ∧ i ≤ 2 ^ 60 ∧ -(2 ^ 60) ≤ j ∧ j ≤ 2 ^ 60 ∧ i - j ≤ LIM then some (.l (rngC i (-1) (i - j).toNat), .t) else none) Q = _
  by_cases h : (-1 : Int) = -1 ∧ -(2 ^ 60) ≤ i ∧ i ≤ 2 ^ 60 ∧ -(2 ^ 60) ≤ j ∧ j ≤ 2 ^ 60 ∧ i - j ≤ LIM
  · rw [if_pos h]
    exact propext ⟨fun q => ⟨h.2.1, h.2.2.1, h.2.2.2.1, h.2.2.2.2.1, h.2.2.2.2.2, q⟩, fun q => q.2.2.2.2.2⟩
  · rw [if_neg h]
    exact propext ⟨fun z => z.elim, fun q => h ⟨rfl, q.1, q.2.1, q.2.2.1, q.2.2.2.1, q.2.2.2.2.1⟩⟩
@[simp] theorem nobL_i (ns : List Int) : nobL (ns.map .i) = true := by
  induction ns with
  | nil => rfl
  | cons n ns ih =>
    show (nob (.i _) && nobL (ns.map .i)) = true
    rw [ih]
    rfl
@[simp] theorem nobL_rm (R : List (List Int)) : nobL (R.map rm) = true := by
  induction R with
  | nil => rfl
  | cons n ns ih =>
    show (nob (rm n) && nobL (ns.map rm)) = true
    rw [ih]
    show (nobL (n.map .i) && true) = true
    rw [nobL_i]
    rfl
@[simp] theorem nobL_lm (R : List (List Int)) : nobL (R.map lm) = true := by
  induction R with
  | nil => rfl
  | cons n ns ih =>
    show (nob (lm n) && nobL (ns.map lm)) = true
    rw [ih]
    show (nobL (n.map .i) && true) = true
    rw [nobL_i]
    rfl
@[simp] theorem nob_t : nob (.t xs) = nobL xs := id rfl
@[simp] theorem nob_l : nob (.l xs) = nobL xs := id rfl
@[simp] theorem nob_z : nob (.z xs) = nobL xs := id rfl
@[simp] theorem nob_i {a : Int} : nob (.i a) = true := id rfl
@[simp] theorem nob_b {a : Bool} : nob (.b a) = true := id rfl
@[simp] theorem nob_s {a : Str} : nob (.s a) = true := id rfl
@[simp] theorem nob_n : nob .n = true := id rfl
@[simp] theorem nobL_0 : nobL [] = true := id rfl
@[simp] theorem nobL_c : nobL (x :: xs) = (nob x && nobL xs) := id rfl
@[simp] theorem nobE_n : nobE (none :: r) = nobE r := id rfl
@[simp] theorem nobE_c {mm : Md} : nobE (some (x, mm) :: r) = (nob x && nobE r) := id rfl
@[simp] theorem nobE_0 : nobE [] = true := id rfl
@[simp] theorem con_0 : ([] : List Str).contains f = false := id rfl
end
end Y
namespace Y
open PySem L2 PyProof.Rows
def lvL (there wish : List Int) : List Int := there.filter fun w => !decide (w ∈ wish)
end Y
namespace Y
open PySem L2 PyProof.Rows
end Y
namespace Y
open PySem L2 PyProof.Rows
end Y
namespace Y
open PySem L2 PyProof.Rows
end Y
namespace Y
open PySem L2 PyProof.Rows
end Y
namespace Y
open PySem L2 PyProof.Rows
end Y
namespace Y
open PySem L2 PyProof.Rows
abbrev XQ := Str → List (Str × Dt) → Ev → Prop
section
variable {f g : Ev → Ou Vl} {c : Ev → Ou Bool} {s u : Ev → So} {r : Ev} {X : XQ} {as : List Am} {fn : Fn} {p : List Dt → Option Vl} {x fl : Str} {i n : Nat}
@[simp] theorem wS_raise1 {Qn Qb Qc : Ev → Prop} {Qr : Vl → Ev → Prop} : wS (sRaise1 x fl f) r Qn Qr Qb Qc = False := by
  unfold wS
  simp only [sRaise1]
  cases f r with
  | ok y r' =>
    obtain ⟨y, m⟩ := y
    by_cases hy : y.flat = true <;> simp [hy]
  | ex _ _ _ => rfl
  | no => rfl
@[simp] theorem wS_raise0 {Qn Qb Qc : Ev → Prop} {Qr : Vl → Ev → Prop} : wS (sRaise0 x) r Qn Qr Qb Qc = False := id rfl
@[simp] theorem isn_x {c : Str} {ns : List Str} {fs : List Dt} : isn (.x c ns fs) = false := id rfl
@[simp] theorem wO_iscN {tb : List (Str × Bool)} {Q : Dt → Md → Prop} : wO (fIsc tb [.n]) Q = Q (.b false) .c := id rfl
end
section
variable {f g : Ev → Ou Vl} {r : Ev} {i : Nat}
@[simp] theorem wO_lr1 {n : Int} {Q : Dt → Md → Prop} : wO (fLr1 [.i n]) Q = ((-(2 ^ 60) ≤ n ∧ n ≤ LIM) ∧ Q (.l (rngD 0 n.toNat)) .t) := by
  unfold fLr1; rw [wO_if]
@[simp] theorem wO_lr2 {a b : Int} {Q : Dt → Md → Prop} : wO (fLr2 [.i a, .i b]) Q = ((-(2 ^ 60) ≤ a ∧ a ≤ 2 ^ 60 ∧ -(2 ^ 60) ≤ b ∧ b ≤ 2 ^ 60 ∧ b - a ≤ LIM) ∧ Q (.l (rngD a (b - a).toNat)) .t) := by
  unfold fLr2; rw [wO_if]
@[simp] theorem tru_n : tru .n = some false := id rfl
@[simp] theorem tru_t {xs : List Dt} : tru (.t xs) = some (!xs.isEmpty) := id rfl
@[simp] theorem tru_l {xs : List Dt} : tru (.l xs) = some (!xs.isEmpty) := id rfl
def wTr (o : Option Bool) (P Q : Prop) : Prop := match o with
  | some true => P
  | some false => Q
  | none => False
@[simp] theorem wTr_t {P Q : Prop} : wTr (some true) P Q = P := id rfl
@[simp] theorem wTr_f {P Q : Prop} : wTr (some false) P Q = Q := id rfl
@[simp] theorem wE_OrT {Q : Vl → Ev → Prop} : wE (mOrT f g) r Q = wE f r fun x r1 => wTr (tru x.1) (Q (x.1, .c) r1) (wE g r1 Q) := by
  unfold wE wTr
  simp only [mOrT]
  cases f r with
  | ok x r1 =>
    obtain ⟨x, m⟩ := x
    simp only
    cases tru x with
    | none => rfl
    | some k => cases k <;> rfl
  | ex _ _ _ => rfl
  | no => rfl
end
end Y
namespace Y
open PySem L2 PyProof.Rows
end Y
namespace Y
open PySem L2 PyProof.Rows
end Y
namespace Y
open PySem L2 PyProof.Rows
section
variable {Q : Dt → Md → Prop} {xs ys : List Dt}
@[simp] theorem wO_lz : wO (fLz [.l xs, .l ys]) Q = ((zipD xs ys).length ≤ LIM ∧ Q (.l (zipD xs ys)) .t) := by
  simp only [fLz]
  split
  · simp [wO_some, *]
  · simp [wO, *]
@[simp] theorem wO_revT : wO (fRevT [.t xs]) Q = Q (.t xs.reverse) .c := id rfl
@[simp] theorem wO_lenSetD {ns : List Int} : wO (fLenSetD [.l (ns.map .i)]) Q = (ns.length ≤ 4000 ∧ Q (.i (ssrt ns).length) .c) := by
  simp only [fLenSetD, intsL, ints_map]
  split
  · simp [wO_some, *]
  · simp [wO, *]
@[simp] theorem wO_srtSet {ns : List Int} : wO (fSrtSet [.t (ns.map .i)]) Q = (ns.length < 64 ∧ Q (.l ((ssrt ns).map .i)) .t) := by
  simp only [fSrtSet, intsL, ints_map]
  split
  · simp [wO_some, *]
  · simp [wO, *]
end
section
@[simp] theorem wT_If {t f g : Ev → Ou Bool} {r : Ev} {QT : Bool → Ev → Prop} : wT (mTIf t f g) r QT = wT t r fun k r1 => (k = true → wT f r1 QT) ∧ (k = false → wT g r1 QT) := by
  unfold wT
  simp only [mTIf]
  cases t r with
  | ok k r1 => cases k <;> simp
  | ex _ _ _ => rfl
  | no => rfl
@[simp] theorem wE_SlZ {A : Am} {r : Ev} {lo hi : Option (Ev → Ou Vl)} {Q : Vl → Ev → Prop} : wE (mSlZ A lo hi) r Q = wA [A] r fun ys r1 => wP lo r1 fun l r2 => wP hi r2 fun h r3 => wL (look r3 ys) fun xs => match xs with
    | [x] => wO (fSl l h x) fun y m => wM (y, m) ys r3 (Q (y, m))
    | _ => False := by
  unfold wE wA wM
  simp only [mSlZ]
  cases evA [A] r with
  | ok ys r1 =>
    simp only
    unfold wP
    cases evP lo r1 with
    | ok l r2 =>
      simp only
      cases evP hi r2 with
      | ok u r3 =>
        simp only
        cases look r3 ys with
        | none => rfl
        | some xs =>
          simp only [wL_some]
          match xs with
          | [] => rfl
          | [x] =>
            simp only
            cases fSl l u x with
            | none => rfl
            | some y => rfl
          | _ :: _ :: _ => rfl
      | ex _ _ _ => rfl
      | no => rfl
    | ex _ _ _ => rfl
    | no => rfl
  | ex _ _ _ => rfl
  | no => rfl
end
section
variable {r : Ev} {QE : Vl → Ev → Prop} {Q : Dt → Md → Prop} {ks vs : List Dt} {x : Dt}
@[simp] theorem wE_Dc {vs : List Nat} {q : Ev → Ou (List Dt)} {t : Vl → Ev → Option Ev} {c : Ev → Ou Bool} {kf vf : Ev → Ou Vl} : wE (mDc vs q t c kf vf) r QE = wI q r fun xs r1 => xs.length ≤ LIM ∧ ∃ acc, dcL t c kf vf (wipeE (coldE r1) vs) xs [] = some acc ∧ QE (.m (acc.map fun p => keyD p.1) (acc.map (·.2)), .c) (coldE r1) := by
  unfold wE wI
  simp only [mDc]
  cases q r with
  | ok xs r1 =>
    simp only
    by_cases h : xs.length ≤ LIM
    · rw [if_pos h]
      cases e : dcL t c kf vf (wipeE (coldE r1) vs) xs [] with
      | some acc =>
        simp only [eq_iff_iff]
        exact ⟨fun z => ⟨h, acc, rfl, z⟩, fun ⟨_, acc', h1, h2⟩ => by cases h1; exact h2⟩
      | none => simp
    · simp [h]
  | ex _ _ _ => simp
  | no => simp
@[simp] theorem coldE_nil : coldE [] = [] := id rfl
@[simp] theorem coldE_n : coldE (none :: r) = none :: coldE r := id rfl
@[simp] theorem coldE_s {x : Dt} {m : Md} : coldE (some (x, m) :: r) = some (x, .c) :: coldE r := id rfl
@[simp] theorem wO_minO {k v : Dt} : wO (fMinO [.m [k] [v]]) Q = Q v .c := id rfl
end
section
variable {f : Ev → Ou Vl} {r : Ev} {Q : Vl → Ev → Prop} {i : Nat} {fs : List (Ev → Ou Vl)}
@[simp] theorem wE_Vo : wE (mVo i) r Q = wG r[i]? fun x m => Q (x, m) (r.set i none) := by
  unfold wE wG
  simp only [mVo]
  cases r[i]? with
  | none => rfl
  | some o => cases o with
    | none => rfl
    | some x => rfl
@[simp] theorem wE_TupO : wE (mTupO fs) r Q = wH fs r fun xs r1 => (xs.length ≤ LIM ∧ xs.all zfl = true) ∧ Q (.t (xs.map (·.1)), .a) r1 := by
  unfold wE wH
  simp only [mTupO]
  cases evH fs r with
  | ok xs r1 =>
    simp only
    by_cases h : xs.length ≤ LIM ∧ xs.all zfl = true
    · rw [if_pos h]; simp [h]
    · rw [if_neg h]; simp only [h, false_and]
  | ex _ _ _ => rfl
  | no => rfl
def wIA (x : Dt) (m : Md) (k : Nat) (Q : Dt → Prop) : Prop := match x, m with
  | .t xs, .a => match xs[k]? with
    | some y => Q y
    | none => False
  | _, _ => False
@[simp] theorem wIA_t {xs : List Dt} {k : Nat} {Q : Dt → Prop} : wIA (.t xs) .a k Q = (match xs[k]? with | some y => Q y | none => False) := id rfl
@[simp] theorem wE_IxA {k : Nat} : wE (mIxA f k) r Q = wE f r fun x r1 => wIA x.1 x.2 k fun y => Q (y, .a) r1 := by
  unfold wE
  simp only [mIxA]
  cases f r with
  | ok x r1 =>
    obtain ⟨x, m⟩ := x
    simp only
    cases x with
    | t xs =>
      cases m with
      | a =>
        simp only [wIA_t]
        cases e : xs[k]? with
        | none => simp
        | some y => simp
      | _ => rfl
    | _ => rfl
  | ex _ _ _ => rfl
  | no => rfl
end
end Y
namespace Y
open PySem L2 PyProof.Rows
section
variable {f g : Ev → Ou Vl} {fs : List (Ev → Ou Vl)} {r : Ev} {i : Nat} {xs : List Dt} {y : Dt} {Qn Qb Qc : Ev → Prop} {Qr : Vl → Ev → Prop}
/-- one more ahead of all at that path -/
def wIn0 : Dt → List Int → Dt → (Dt → Prop) → Prop
  | .l xs, [], y, Q => xs.length < LIM ∧ Q (.l (y :: xs))
  | .l xs, k :: ks, y, Q => wAj xs k fun j x => wIn0 x ks y fun x' => Q (.l (xs.set j x'))
  | _, _, _, _ => False
@[simp] theorem wIn0_n {Q : Dt → Prop} : wIn0 (.l xs) [] y Q = (xs.length < LIM ∧ Q (.l (y :: xs))) := id rfl
@[simp] theorem wIn0_c {k : Int} {ks : List Int} {Q : Dt → Prop} : wIn0 (.l xs) (k :: ks) y Q = wAj xs k fun j x => wIn0 x ks y fun x' => Q (.l (xs.set j x')) := id rfl
end
section
variable {folk : List Int} {d : Nat} {R : List (List Int)} {D : List Int}
/-- at an end of a well house: what doors remember rises, all ahead of a door are no heavier than it, all beyond no lighter -/
structure EndUp (d : Nat) (R : List (List Int)) (D : List Int) : Prop where
  ah : ∀ k : Nat, k < d → ∀ w ∈ R.getD k [], w ≤ D.getD k 0
  by_ : ∀ k : Nat, k < d → ∀ w ∈ R.getD (k + 1) [], D.getD k 0 ≤ w
  up : ∀ i j : Nat, i ≤ j → j < d → D.getD i 0 ≤ D.getD j 0
theorem end_up (h : Hou folk d R D) (he : steps R D = []) (hu : unwellL R D = []) : EndUp d R D := by
  have hld := h.ld
  have no : ∀ p, ¬ p ∈ steps R D := fun p hp => by rw [he] at hp; cases hp
  have a : ∀ k : Nat, k < d → ∀ w ∈ R.getD k [], w ≤ D.getD k 0 := fun k hk w hw => by
    refine Int.not_lt.mp fun c => no (w, (k : Int) + 1) (mem_steps.mpr ⟨k, by omega, rfl, .inl ⟨hw, c⟩⟩)
  have b : ∀ k : Nat, k < d → ∀ w ∈ R.getD (k + 1) [], D.getD k 0 ≤ w := fun k hk w hw => by
    refine Int.not_lt.mp fun c => no (w, (k : Int) + 1) (mem_steps.mpr ⟨k, by omega, rfl, .inr ⟨hw, c⟩⟩)
  have s : ∀ k : Nat, k + 1 < d → D.getD k 0 ≤ D.getD (k + 1) 0 := fun k hk => by
    refine Int.not_lt.mp fun c => ?_
    have : ((k : Int) + 1) ∈ unwellL R D := mem_unwellL.mpr ⟨k, by omega, rfl, c, fun v hv => by
      have h1 := a (k + 1) hk v hv
      have h2 := b k (by omega) v hv
      omega⟩
    rw [hu] at this
    cases this
  refine ⟨a, b, fun i j hij => ?_⟩
  induction hij with
  | refl => exact fun _ => Int.le_refl _
  | step _ ih => exact fun hj => Int.le_trans (ih (by omega)) (s _ hj)
theorem EndUp.sorted (e : EndUp d R D) (h : Hou folk d R D) : R.flatten = isrt R.flatten := by
  refine (isrt_id ?_).symm
  have hlr := h.lr
  refine List.pairwise_flatten.mpr ⟨fun r hr => (h.srt r hr).imp fun h => by omega, ?_⟩
  refine List.pairwise_iff_getElem.mpr fun i j hi hj hij w hw v hv => ?_
  have h1 : w ∈ R.getD i [] := by rw [List.getD_eq_getElem?_getD, List.getElem?_eq_getElem hi]; exact hw
  have h2 : v ∈ R.getD (j - 1 + 1) [] := by rw [show j - 1 + 1 = j by omega, List.getD_eq_getElem?_getD, List.getElem?_eq_getElem hj]; exact hv
  have h3 := e.ah i (by omega) w h1
  have h4 := e.by_ (j - 1) (by omega) v h2
  have h5 := e.up i (j - 1) (by omega) (by omega)
  omega
end
end Y
namespace Y
open PySem L2 PyProof.Rows
/-- so many of n, by sums -/
def ch : Nat → Nat → Nat
  | _, 0 => 1
  | 0, _ + 1 => 0
  | n + 1, k + 1 => ch n k + ch n (k + 1)
/-- so many rows of k of v values that don't fall -/
def wy (v k : Nat) : Nat := ch (v + k - 1) k
/-- those that begin lower -/
def wsum (n k l c : Nat) : Nat := ((List.range (c - l)).map fun i => wy (n - (l + i)) k).sum
/-- cuts from l on, none below the one ahead, below n -/
def Val (n : Nat) : Nat → List Nat → Prop
  | _, [] => True
  | l, c :: cs => l ≤ c ∧ c < n ∧ Val n c cs
/-- how many lists of as many cuts are lesser -/
def num (n : Nat) : Nat → List Nat → Nat
  | _, [] => 0
  | l, c :: cs => wsum n cs.length l c + num n c cs
theorem Val.mono {n : Nat} : ∀ {cs : List Nat} {l l' : Nat}, Val n l cs → l' ≤ l → Val n l' cs
  | [], _, _, _, _ => trivial
  | _ :: _, _, _, ⟨h1, h2, h3⟩, h => ⟨by omega, h2, h3⟩
@[simp] theorem wL_rng3 {i j : Int} {QL : List Dt → Prop} : wL (sRng3 [.i i, .i j, .i (-1)]) QL = ((-(2 ^ 60) ≤ i ∧ i ≤ 2 ^ 60 ∧ -(2 ^ 60) ≤ j ∧ j ≤ 2 ^ 60 ∧ i - j ≤ LIM) ∧ QL (rngC i (-1) (i - j).toNat)) := by
  show wL (if (-1 : Int) = -1 ∧ -(2 ^ 60) ≤ i ∧ i ≤ 2 ^ 60 ∧ -(2 ^ 60) ≤ j ∧ j ≤ 2 ^ 60 ∧ i - j ≤ LIM then some (rngC i (-1) (i - j).toNat) else none) QL = _
  simp only [true_and]
  exact wL_if
/-- an item of an item -/
def wIx2 (x z : Dt) (k : Int) (Q : Dt → Prop) : Prop := match z with
  | .i l => match x with
    | .l xs => wAt xs k fun y => match y with
      | .l ys => wAt ys l fun w => w.flat = true ∧ Q w
      | _ => False
    | _ => False
  | _ => False
@[simp] theorem wIx2_l {xs : List Dt} {k l : Int} {Q : Dt → Prop} : wIx2 (.l xs) (.i l) k Q = wAt xs k fun y => match y with
      | .l ys => wAt ys l fun w => w.flat = true ∧ Q w
      | _ => False := id rfl
theorem wIx2_eq {x z : Dt} {k : Int} {r1 : Ev} {Q : Vl → Ev → Prop} : (match ix2G x z k r1 with
    | .ok y r2 => Q y r2
    | _ => False) = wIx2 x z k fun y => Q (y, .c) r1 := by
  unfold wIx2
  cases z with
  | i l =>
    cases x with
    | l xs =>
      simp only [ix2G, getP, wAt]
      cases h1 : atI xs k with
      | none => simp
      | some y =>
        cases y with
        | l ys =>
          simp only [Option.bind_some, getP]
          cases h3 : atI ys l with
          | none => simp [h3]
          | some w =>
            by_cases hw : w.flat = true
            · simp [h3, hw]
            · simp [h3, hw]
        | _ => simp [getP]
    | _ => simp [ix2G, getP]
  | _ => simp [ix2G]
@[simp] theorem wE_Ix2 {i j : Nat} {f : Ev → Ou Vl} {r : Ev} {Q : Vl → Ev → Prop} : wE (mIx2 i f j) r Q = wG r[i]? fun _ _ => wE f r fun k r1 => match k.1 with
    | .i k => wG r1[i]? fun x _ => wG r1[j]? fun z _ => wIx2 x z k fun y => Q (y, .c) r1
    | _ => False := by
  unfold wG wE
  simp only [mIx2]
  cases hr : r[i]? with
  | none => rfl
  | some oo =>
  cases oo with
  | none => rfl
  | some xm =>
    simp only
    cases hf : f r with
    | no => rfl
    | ex _ _ _ => rfl
    | ok kd r1 =>
      obtain ⟨kd, mk⟩ := kd
      simp only
      cases kd with
      | i k =>
        simp only
        cases hri : r1[i]? with
        | none => rfl
        | some oo =>
        cases oo with
        | none => rfl
        | some xm =>
          simp only
          cases hrj : r1[j]? with
          | none => rfl
          | some oo =>
          cases oo with
          | none => rfl
          | some zm =>
            simp only
            exact wIx2_eq
      | _ => rfl
end Y
namespace Y
open PySem L2 PyProof.Rows
end Y
namespace Y
open PySem L2 PyProof.Rows
end Y
namespace Y
open L2
section
variable {r : Ev} {QE : Vl → Ev → Prop} {Q : Dt → Md → Prop} {ks vs : List Dt} {x : Dt} {m : Md} {i : Nat} {f : Ev → Ou Vl}
@[simp] theorem wK_tgD {Q : Ev → Prop} : wK (tgD i f (x, m) r) Q = (isM i r = true ∧ wE f r fun k r1 => match r1[i]? with
    | some (some (.m ks vs, .a)) => ∃ ke, keyOf k.1 = some ke ∧ x.flat = true ∧ ks.length < LIM ∧ setK r1 i (some (.m (putM ks vs ke x).1 (putM ks vs ke x).2, .a)) Q
    | _ => False) := by
  unfold wK tgD wE setK
  by_cases h : isM i r = true
  · rw [if_pos h]
    simp only [h, true_and]
    cases f r with
    | ok k r1 =>
      obtain ⟨k, mk⟩ := k
      simp only
      cases hr : r1[i]? with
      | none => rfl
      | some o =>
        cases o with
        | none => rfl
        | some z =>
          obtain ⟨z, mz⟩ := z
          cases z with
          | m ks vs =>
            cases mz with
            | a =>
              simp only
              cases hk : keyOf k with
              | none => simp
              | some ke =>
                simp only [Option.some.injEq]
                by_cases hc : x.flat = true ∧ ks.length < LIM
                · rw [if_pos hc]
                  simp only [eq_iff_iff]
                  exact ⟨fun z => ⟨ke, rfl, hc.1, hc.2, z⟩, fun ⟨k2, e, _, _, z⟩ => by cases e; exact z⟩
                · rw [if_neg hc]
                  simp only [false_iff, eq_iff_iff]
                  rintro ⟨k2, e, h1, h2, _⟩
                  exact hc ⟨h1, h2⟩
            | c => rfl
            | t => rfl
          | _ => rfl
    | ex _ _ _ => rfl
    | no => rfl
  · rw [if_neg h]
    simp [h]
@[simp] theorem wE_dnew : wE mDNew r QE = QE (dM [], .a) r := id rfl
end
end Y
namespace Y
open L2
section
variable {r : Ev} {xs : List Dt} {ts : List (Vl → Ev → Option Ev)}
@[simp] theorem wK_tgTO {Q : Ev → Prop} : wK (tgTO ts (.t xs, .a) r) Q = wK (tgsO ts xs r) Q := id rfl
@[simp] theorem wK_tgsO0 {Q : Ev → Prop} : wK (tgsO [] [] r) Q = Q r := id rfl
@[simp] theorem wK_tgsO {Q : Ev → Prop} {t : Vl → Ev → Option Ev} {x : Dt} : wK (tgsO (t :: ts) (x :: xs) r) Q = wK (t (ownV x) r) fun r1 => wK (tgsO ts xs r1) Q := by
  unfold wK
  simp only [tgsO]
  cases t (ownV x) r <;> rfl
@[simp] theorem isM_0 {ks vs : List Dt} : isM 0 (some (.m ks vs, .a) :: r) = true := id rfl
@[simp] theorem isM_s {o : Option Vl} {i : Nat} : isM (i + 1) (o :: r) = isM i r := id rfl
@[simp] theorem ownV_l {xs : List Dt} : ownV (.l xs) = (.l xs, .a) := id rfl
@[simp] theorem ownV_m {xs ys : List Dt} : ownV (.m xs ys) = (.m xs ys, .a) := id rfl
@[simp] theorem ownV_i {k : Int} : ownV (.i k) = (.i k, .c) := id rfl
end
end Y
namespace Y
open L2
section
variable {r : Ev} {QE : Vl → Ev → Prop} {Q : Dt → Md → Prop} {vs vs1 : List Nat} {t t1 : Vl → Ev → Option Ev} {c c1 : Ev → Ou Bool} {kf vf : Ev → Ou Vl} {q s1 : Ev → Ou (List Dt)}
@[simp] theorem wE_DcE : wE (mDcE vs q t c kf vf) r QE = wI q r fun xs r1 => xs.length ≤ LIM ∧ ∃ acc r2, dcE vs t c kf vf xs (wipeE r1 vs) [] = .ok acc r2 ∧ QE (dM acc, .a) (rsE r1 vs r2) := by
  unfold wE wI
  simp only [mDcE]
  cases q r with
  | ok xs r1 =>
    simp only
    by_cases h : xs.length ≤ LIM
    · rw [if_pos h]
      cases e : dcE vs t c kf vf xs (wipeE r1 vs) [] with
      | ok acc r2 =>
        simp only [eq_iff_iff]
        exact ⟨fun z => ⟨h, acc, r2, rfl, z⟩, fun ⟨_, a, b, h1, h2⟩ => by cases h1; exact h2⟩
      | ex _ _ _ => simp
      | no => simp
    · simp [h]
  | ex _ _ _ => rfl
  | no => rfl
@[simp] theorem wE_Dc2 : wE (mDc2 vs vs1 q t c s1 t1 c1 kf vf) r QE = wI q r fun xs r1 => ∃ acc r2, dc2E vs vs1 t c s1 t1 c1 kf vf xs (wipeE r1 vs) [] = .ok acc r2 ∧ QE (dM acc, .a) (rsE r1 vs r2) := by
  unfold wE wI
  simp only [mDc2]
  cases q r with
  | ok xs r1 =>
    simp only
    cases e : dc2E vs vs1 t c s1 t1 c1 kf vf xs (wipeE r1 vs) [] with
    | ok acc r2 =>
      simp only [eq_iff_iff]
      exact ⟨fun z => ⟨acc, r2, rfl, z⟩, fun ⟨a, b, h1, h2⟩ => by cases h1; exact h2⟩
    | ex _ _ _ => simp
    | no => simp
  | ex _ _ _ => rfl
  | no => rfl
end
end Y
namespace Y
open PySem L2
section
variable {Q : Dt → Md → Prop} {xs : List Dt}
@[simp] theorem wO_rev0T : wO (fRev0T [.t xs]) Q = Q (.t (xs.drop 1).reverse) .c := id rfl
@[simp] theorem wE_Pk {p : List Dt → Option Vl} {as : List Am} {r : Ev} {Q : Vl → Ev → Prop} : wE (mPk p as) r Q = wA as r fun ys r1 => wL (look r1 ys) fun xs => wO (p xs) fun x m => wM (x, m) ys r1 (Q (x, m)) := by
  unfold wE wA wL wO wM
  simp only [mPk]
  cases evA as r with
  | ok ys r1 =>
    simp only
    cases look r1 ys with
    | none => rfl
    | some xs =>
      simp only
      cases p xs <;> rfl
  | ex _ _ _ => rfl
  | no => rfl
@[simp] theorem wO_srtSetL {ns : List Int} : wO (fSrtSetL [.l (ns.map .i)]) Q = (ns.length < 64 ∧ Q (.l ((ssrt ns).map .i)) .t) := by
  simp only [fSrtSetL, ints_map]
  by_cases h : ns.length < 64
  · rw [if_pos h]; simp [h]
  · rw [if_neg h]; simp [h]
end
section
variable {r : Ev} {Q : Vl → Ev → Prop} {c f : Str} {i j : Nat} {g : Ev → Ou Vl} {x : Dt} {m : Md}
def wOb (o : Option (Option Vl)) (F : Str → List Str → List Dt → Prop) (P : Prop) : Prop := match o with
  | some (some (.o c ns fs, .a)) => F c ns fs
  | _ => P
@[simp] theorem wOb_o {ns : List Str} {fs : List Dt} {F : Str → List Str → List Dt → Prop} {P : Prop} : wOb (some (some (.o c ns fs, .a))) F P = F c ns fs := id rfl
@[simp] theorem wOb_c {y : Dt} {F : Str → List Str → List Dt → Prop} {P : Prop} : wOb (some (some (y, .c))) F P = P := by unfold wOb; cases y <;> rfl
@[simp] theorem okO_e : okO i r = (r.set i none).all flS := id rfl
@[simp] theorem wE_lendO : wE (mLendO i g) r Q = wOb r[i]? (fun c ns fs => wE g (r.set i (some (.o c ns fs, .c))) fun x r2 => wB (zfl x && okO i r2 && decide (i < r2.length)) (setK r2 i (some (.o c ns fs, .a)) (Q x)) (Q x r2)) (wE g r Q) := by
  unfold wE wOb wB setK mLendO
  generalize r[i]? = oi
  cases oi with
  | none => rfl
  | some oi =>
  cases oi with
  | none => rfl
  | some oi =>
  obtain ⟨y, md⟩ := oi
  cases y with
  | o c ns fs =>
    cases md with
    | a =>
      simp only
      cases g (r.set i (some (.o c ns fs, .c))) with
      | ok xm r' =>
        simp only
        by_cases h : (zfl xm && okO i r' && decide (i < r'.length)) = true
        · rw [if_pos h, if_pos h]
        · rw [if_neg h, if_neg h]
      | ex _ _ _ => rfl
      | no => rfl
    | _ => rfl
  | _ => rfl
@[simp] theorem wE_MeI {fn : Fn} {as : List Am} : wE (mMeI c f fn i as) r Q = wG r[i]? fun x _ => (isO c f x = true ∧ wE (mCI fn i as) r Q) := by
  unfold wG wE
  simp only [mMeI]
  cases r[i]? with
  | none => rfl
  | some o =>
    cases o with
    | none => rfl
    | some xm =>
      obtain ⟨x, md⟩ := xm
      simp only
      by_cases h : isO c f x = true
      · rw [if_pos h]; simp [h]
      · rw [if_neg h]; simp [h]
@[simp] theorem wFn_mkO {fn : Fn} {xs : List Vl} {QF : Vl → Vl → Prop} : wFn (fnMkO c fn) xs QF = wFn fn ((.o c [] [], .a) :: xs) fun x z => x.1 = .n ∧ QF z (.n, .c) := by
  unfold wFn
  simp only [fnMkO]
  cases h : fn ((.o c [] [], .a) :: xs) with
  | no => rfl
  | ex _ _ _ => rfl
  | rt x z =>
    obtain ⟨x, m⟩ := x
    cases x <;> simp
@[simp] theorem wK_tgF {Q : Ev → Prop} : wK (tgF i c f (x, m) r) Q = wOb r[i]? (fun c' ns fs => c' = c ∧ zfl (x, m) = true ∧ ns.length < 900 ∧ setK r i (some (.o c (putFN f ns) (putFD f x ns fs), .a)) Q) False := by
  unfold wK tgF wOb setK
  generalize r[i]? = oi
  cases oi with
  | none => rfl
  | some oi =>
  cases oi with
  | none => rfl
  | some oi =>
  obtain ⟨y, md⟩ := oi
  cases y with
  | o c' ns fs =>
    cases md with
    | a =>
      simp only
      by_cases hc : c' = c ∧ zfl (x, m) = true ∧ ns.length < 900
      · rw [if_pos hc]; simp [hc]
      · rw [if_neg hc]
        simp only [eq_iff_iff, false_iff]
        exact fun z => hc ⟨z.1, z.2.1, z.2.2.1⟩
    | _ => rfl
  | _ => rfl
@[simp] theorem wK_tgFD {Q : Ev → Prop} : wK (tgFD i c f j (x, m) r) Q = wOb r[i]? (fun c' ns fs => wG r[j]? fun kd _ => match (ns.zip fs).lookup f with
    | some (.m ks vs) => ∃ k, keyOf kd = some k ∧ c' = c ∧ x.flat = true ∧ ks.length < LIM ∧ setK r i (some (.o c ns (putFD f (.m (putM ks vs k x).1 (putM ks vs k x).2) ns fs), .a)) Q
    | _ => False) False := by
  unfold wK tgFD wOb setK wG
  generalize r[i]? = oi
  generalize r[j]? = oj
  cases oi with
  | none => rfl
  | some oi =>
  cases oi with
  | none => rfl
  | some oi =>
  obtain ⟨y, md⟩ := oi
  cases y with
  | o c' ns fs =>
    cases md with
    | a =>
      cases oj with
      | none => rfl
      | some oj =>
      cases oj with
      | none => rfl
      | some kd =>
      obtain ⟨kd, mk⟩ := kd
      simp only
      generalize (ns.zip fs).lookup f = l
      cases l with
      | none => rfl
      | some z =>
      cases z with
      | m ks vs =>
        simp only
        cases hk : keyOf kd with
        | none => simp
        | some k =>
          simp only [Option.some.injEq, exists_eq_left']
          by_cases hc : c' = c ∧ x.flat = true ∧ ks.length < LIM
          · rw [if_pos hc]; simp [hc]
          · rw [if_neg hc]
            simp only [eq_iff_iff, false_iff]
            exact fun z => hc ⟨z.1, z.2.1, z.2.2.1⟩
      | _ => rfl
    | _ => rfl
  | _ => rfl
@[simp] theorem wS_delF {Qn : Ev → Prop} {Qr : Vl → Ev → Prop} {Qb Qc : Ev → Prop} : wS (sDelF i c f j) r Qn Qr Qb Qc = wOb r[i]? (fun c' ns fs => wG r[j]? fun kd _ => match (ns.zip fs).lookup f with
    | some (.m ks vs) => ∃ k, keyOf kd = some k ∧ c' = c ∧ (ks.any fun kd => decide (keyOf kd = some k)) = true ∧ setK r i (some (.o c ns (putFD f (.m (dropM k ks vs).1 (dropM k ks vs).2) ns fs), .a)) Qn
    | _ => False) False := by
  unfold wS sDelF wOb setK wG
  generalize r[i]? = oi
  generalize r[j]? = oj
  cases oi with
  | none => rfl
  | some oi =>
  cases oi with
  | none => rfl
  | some oi =>
  obtain ⟨y, md⟩ := oi
  cases y with
  | o c' ns fs =>
    cases md with
    | a =>
      cases oj with
      | none => rfl
      | some oj =>
      cases oj with
      | none => rfl
      | some kd =>
      obtain ⟨kd, mk⟩ := kd
      simp only
      generalize (ns.zip fs).lookup f = l
      cases l with
      | none => rfl
      | some z =>
      cases z with
      | m ks vs =>
        simp only
        cases hk : keyOf kd with
        | none => simp
        | some k =>
          simp only [Option.some.injEq, exists_eq_left']
          by_cases hc : c' = c ∧ (ks.any fun kd => decide (keyOf kd = some k)) = true
          · rw [if_pos hc]; simp [hc]
          · rw [if_neg hc]
            simp only [eq_iff_iff, false_iff]
            exact fun z => hc ⟨z.1, z.2.1⟩
      | _ => rfl
    | _ => rfl
  | _ => rfl
end
section
variable {r : Ev} {c f : Str} {i : Nat} {g k : Ev → So} {e : Ev → Ou Vl} {Qn : Ev → Prop} {Qr : Vl → Ev → Prop} {Qb Qc : Ev → Prop}
@[simp] theorem wS_fin : wS (sFin g k) r Qn Qr Qb Qc = wS g r (fun r1 => wS k r1 Qn (fun _ _ => False) (fun _ => False) fun _ => False) (fun _ _ => False) (fun _ => False) fun _ => False := by
  unfold wS
  simp only [sFin]
  cases g r with
  | nx r1 =>
    simp only
    cases k r1 <;> rfl
  | _ => rfl
@[simp] theorem mixE_0 {r' : Ev} : mixE [] r' = [] := id rfl
@[simp] theorem mixE_cc {o' : Option Vl} {x : Dt} {r r' : Ev} : mixE (some (x, .c) :: r) (o' :: r') = some (x, .c) :: mixE r r' := id rfl
@[simp] theorem mixE_ct {o' : Option Vl} {x : Dt} {r r' : Ev} : mixE (some (x, .t) :: r) (o' :: r') = o' :: mixE r r' := id rfl
@[simp] theorem mixE_ca {o' : Option Vl} {x : Dt} {r r' : Ev} : mixE (some (x, .a) :: r) (o' :: r') = o' :: mixE r r' := id rfl
@[simp] theorem mixE_cn {o' : Option Vl} {r r' : Ev} : mixE (none :: r) (o' :: r') = o' :: mixE r r' := id rfl
def okZ (r r' : Ev) : List Bool := List.zipWith (fun o o' => coldS o || flS o') r r'
@[simp] theorem okX_e {r r' : Ev} : okX i r r' = ((okZ r r').set i true).all id := id rfl
@[simp] theorem okZ_0 {r' : Ev} : okZ [] r' = [] := id rfl
@[simp] theorem okZ_cc {o' : Option Vl} {x : Dt} {r r' : Ev} : okZ (some (x, .c) :: r) (o' :: r') = true :: okZ r r' := id rfl
@[simp] theorem okZ_ct {o' : Option Vl} {x : Dt} {r r' : Ev} : okZ (some (x, .t) :: r) (o' :: r') = flS o' :: okZ r r' := id rfl
@[simp] theorem okZ_ca {o' : Option Vl} {x : Dt} {r r' : Ev} : okZ (some (x, .a) :: r) (o' :: r') = flS o' :: okZ r r' := id rfl
@[simp] theorem okZ_cn {o' : Option Vl} {r r' : Ev} : okZ (none :: r) (o' :: r') = flS o' :: okZ r r' := id rfl
@[simp] theorem allB_0 : ([] : List Bool).all id = true := id rfl
@[simp] theorem allB_c {b : Bool} {bs : List Bool} : (b :: bs).all id = (b && bs.all id) := id rfl
@[simp] theorem wS_fApp : wS (sFApp i c f e) r Qn Qr Qb Qc = wOb r[i]? (fun c' ns fs => match (ns.zip fs).lookup f with
    | some (.l xs) => wE e (r.set i (some (.o c' ns fs, .c))) fun y r2 => c' = c ∧ y.1.flat = true ∧ okX i r r2 = true ∧ i < (mixE r r2).length ∧ xs.length < LIM ∧ setK (mixE r r2) i (some (.o c' ns (putFD f (.l (xs ++ [y.1])) ns fs), .a)) Qn
    | _ => False) False := by
  unfold wS sFApp wOb setK wE
  generalize okX i r = ok
  generalize mixE r = mix
  generalize r[i]? = oi
  cases oi with
  | none => rfl
  | some oi =>
  cases oi with
  | none => rfl
  | some oi =>
  obtain ⟨y, md⟩ := oi
  cases y with
  | o c' ns fs =>
    cases md with
    | a =>
      simp only
      generalize (ns.zip fs).lookup f = l
      cases l with
      | none => rfl
      | some z =>
      cases z with
      | l xs =>
        simp only
        cases e (r.set i (some (.o c' ns fs, .c))) with
        | ok y r2 =>
          obtain ⟨y, m⟩ := y
          simp only
          by_cases hc : c' = c ∧ y.flat = true ∧ ok r2 = true ∧ i < (mix r2).length ∧ xs.length < LIM
          · rw [if_pos hc]; simp only [hc, true_and]
          · rw [if_neg hc]
            simp only [eq_iff_iff, false_iff]
            exact fun z => hc ⟨z.1, z.2.1, z.2.2.1, z.2.2.2.1, z.2.2.2.2.1⟩
        | ex _ _ _ => rfl
        | no => rfl
      | _ => rfl
    | _ => rfl
  | _ => rfl
@[simp] theorem wS_fPop : wS (sFPop i c f) r Qn Qr Qb Qc = wOb r[i]? (fun c' ns fs => match (ns.zip fs).lookup f with
    | some (.l xs) => c' = c ∧ xs ≠ [] ∧ setK r i (some (.o c' ns (putFD f (.l xs.dropLast) ns fs), .a)) Qn
    | _ => False) False := by
  unfold wS sFPop wOb setK
  generalize r[i]? = oi
  cases oi with
  | none => rfl
  | some oi =>
  cases oi with
  | none => rfl
  | some oi =>
  obtain ⟨y, md⟩ := oi
  cases y with
  | o c' ns fs =>
    cases md with
    | a =>
      simp only
      generalize (ns.zip fs).lookup f = l
      cases l with
      | none => rfl
      | some z =>
      cases z with
      | l xs =>
        simp only
        by_cases hc : c' = c ∧ xs ≠ []
        · rw [if_pos hc]; simp [hc]
        · rw [if_neg hc]
          simp only [eq_iff_iff, false_iff]
          exact fun z => hc ⟨z.1, z.2.1⟩
      | _ => rfl
    | _ => rfl
  | _ => rfl
end
end Y
namespace Y
open L2
end Y
namespace Y
open L2
section
variable {F : List Int} {p p' : Int → Nat} {m m' : Nat → Int} {d k : Nat} {w : Int} {R0 : List (List Int)} {D0 : List Int} {ps : List (Int × Int)}
def Apart (x y : Int × Nat × Nat) : Prop := x.1 ≠ y.1 ∧ (x.2.2 ≤ y.2.1 ∨ y.2.2 ≤ x.2.1)
theorem Apart.symm {x y : Int × Nat × Nat} (h : Apart x y) : Apart y x := ⟨fun e => h.1 e.symm, h.2.elim .inr .inl⟩
end
end Y
namespace Y
open PySem L2
theorem run_trans {d : Nat} {R0 R R2 : List (List Int)} {D0 D D2 : List Int} {ps qs : List (Int × Int)} (h : Run d R0 D0 ps R D) (g : Run d R D qs R2 D2) : Run d R0 D0 (ps ++ qs) R2 D2 := by
  induction g with
  | nil => rw [List.append_nil]; exact h
  | snoc _ hk l ih => rw [← List.append_assoc]; exact ih.snoc hk l
end Y
namespace Y
open L2
section
variable {QL : List Dt → Prop} {Q : Dt → Md → Prop} {xs : List Dt} {k : Int}
@[simp] theorem wL_enumK : wL (sEnumK [.l xs, .i k]) QL = ((-(2 ^ 60) ≤ k ∧ k ≤ 2 ^ 60) ∧ QL (enumD k xs)) := by
  simp only [sEnumK]; exact wL_if
@[simp] theorem wL_enumKT : wL (sEnumK [.t xs, .i k]) QL = ((-(2 ^ 60) ≤ k ∧ k ≤ 2 ^ 60) ∧ QL (enumD k xs)) := by
  simp only [sEnumK]; exact wL_if
theorem listsD_lm (R : List (List Int)) : listsD (R.map lm) = some (R.map fun r => r.map Dt.i) := by
  induction R with
  | nil => rfl
  | cons r R ih => rw [List.map_cons, List.map_cons]; show (listsD (R.map lm)).map _ = _; rw [ih]; rfl
@[simp] theorem wO_sumL {R : List (List Int)} : wO (fSumL [.l (R.map lm), .l []]) Q = (R.flatten.length ≤ LIM ∧ Q (.l (R.flatten.map .i)) .c) := by
  have e : (R.map fun r => r.map Dt.i).flatten = R.flatten.map .i := List.map_flatten.symm
  have e2 : fSumL [.l (R.map lm), .l []] = if R.flatten.length ≤ LIM then some (.l (R.flatten.map .i), .c) else none := by
    simp only [fSumL, listsD_lm, e, List.length_map]
  rw [e2]
  exact wO_if
end
section
variable {r : Ev} {QE : Vl → Ev → Prop}
@[simp] theorem wE_ddisp1 {p : Key × Dt} : wE (mDDisp [p]) r QE = QE (dM [p], .a) r := id rfl
@[simp] theorem wE_words {a b : PySem.Str} : wE (mDDisp [(.inr (PySem.Str.ofString "low"), .s a), (.inr (PySem.Str.ofString "high"), .s b)]) r QE = QE (dM [(.inr (PySem.Str.ofString "low"), .s a), (.inr (PySem.Str.ofString "high"), .s b)], .a) r := id rfl
end
@[simp] theorem wO_srtB {bs : List Bool} {Q : Dt → Md → Prop} : wO (fSrtB [.l (bs.map .b)]) Q = Q (.l ((srtB bs).map .b)) .t := by simp [fSrtB, bls_map]
def wInK (n : Nat) : Dt → List Int → Dt → (Dt → Prop) → Prop
  | .l xs, [], y, Q => xs.length < LIM ∧ Q (.l (xs.take n ++ y :: xs.drop n))
  | .l xs, k :: ks, y, Q => wAj xs k fun j x => wInK n x ks y fun x' => Q (.l (xs.set j x'))
  | _, _, _, _ => False
@[simp] theorem wInK_n {n : Nat} {xs : List Dt} {y : Dt} {Q : Dt → Prop} : wInK n (.l xs) [] y Q = (xs.length < LIM ∧ Q (.l (xs.take n ++ y :: xs.drop n))) := id rfl
@[simp] theorem wInK_c {n : Nat} {xs : List Dt} {y : Dt} {k : Int} {ks : List Int} {Q : Dt → Prop} : wInK n (.l xs) (k :: ks) y Q = wAj xs k fun j x => wInK n x ks y fun x' => Q (.l (xs.set j x')) := id rfl
end Y
namespace Y
open L2 PySem
section
variable {r : Ev} {QE : Vl → Ev → Prop} {Q : Dt → Md → Prop} {ks vs : List Dt} {x y z : Dt} {m : Md} {i : Nat} {f : Ev → Ou Vl}
@[simp] theorem wO_kIx : wO (fKIx [.k ks vs, x]) Q = (kyT x = true ∧ ∃ y, lookN ks vs (keyN x) = some y ∧ Q y .c) := by
  simp only [fKIx]
  by_cases h : kyT x = true
  · rw [if_pos h]
    cases hl : lookN ks vs (keyN x) with
    | none => simp [wO]
    | some y => simp [wO, h]
  · rw [if_neg h]; simp [wO, h]
@[simp] theorem wO_kIn : wO (fKIn [x, .k ks vs]) Q = (kyT x = true ∧ Q (.b (lookN ks vs (keyN x)).isSome) .c) := by
  simp only [fKIn]
  by_cases h : kyT x = true
  · rw [if_pos h]; simp [wO, h]
  · rw [if_neg h]; simp [wO, h]
@[simp] theorem wO_kNin : wO (fKNin [x, .k ks vs]) Q = (kyT x = true ∧ Q (.b (!(lookN ks vs (keyN x)).isSome)) .c) := by
  simp only [fKNin]
  by_cases h : kyT x = true
  · rw [if_pos h]; simp [wO, h]
  · rw [if_neg h]; simp [wO, h]
@[simp] theorem wO_kGet : wO (fKGet [.k ks vs, x]) Q = (kyT x = true ∧ Q ((lookN ks vs (keyN x)).getD .n) .c) := by
  simp only [fKGet]
  by_cases h : kyT x = true
  · rw [if_pos h]; simp [wO, h]
  · rw [if_neg h]; simp [wO, h]
@[simp] theorem wO_kGet2 : wO (fKGet2 [.k ks vs, x, z]) Q = (kyT x = true ∧ Q ((lookN ks vs (keyN x)).getD z) .c) := by
  simp only [fKGet2]
  by_cases h : kyT x = true
  · rw [if_pos h]; simp [wO, h]
  · rw [if_neg h]; simp [wO, h]
@[simp] theorem wO_lenK : wO (fLenK [.k ks vs]) Q = (ks.length ≤ LIM ∧ Q (.i ks.length) .c) := by
  simp only [fLenK]
  by_cases h : ks.length ≤ LIM
  · rw [if_pos h]; simp [wO, h]
  · rw [if_neg h]; simp [wO, h]
@[simp] theorem wE_Mk {p : List Dt → Option Vl} {as : List Am} : wE (mMk p i as) r QE = (isKs i r = true ∧ wE (mP p (.v i :: as)) r QE) := by
  unfold wE mMk
  by_cases h : isKs i r = true
  · rw [if_pos h]; simp [h]
  · rw [if_neg h]; simp [h]
@[simp] theorem wE_knew : wE mKNew r QE = QE (.k [] [], .a) r := id rfl
@[simp] theorem wE_kd1 : wE (mKD1 f y) r QE = wE f r fun k r1 => kyT k.1 = true ∧ QE (.k [k.1] [y], .a) r1 := by
  unfold wE mKD1
  cases f r with
  | ok k r1 =>
    obtain ⟨k, mk⟩ := k
    simp only
    by_cases h : kyT k = true
    · rw [if_pos h]; simp [h]
    · rw [if_neg h]; simp [h]
  | ex _ _ _ => rfl
  | no => rfl
@[simp] theorem wK_tgK {Q : Ev → Prop} : wK (tgK i f (x, m) r) Q = (isK i r = true ∧ wE f r fun k r1 => match r1[i]? with
    | some (some (.k ks vs, .a)) => kyT k.1 = true ∧ x.flat = true ∧ ks.length < LIM ∧ setK r1 i (some (.k (putN ks vs k.1 x).1 (putN ks vs k.1 x).2, .a)) Q
    | _ => False) := by
  unfold wK tgK wE setK
  by_cases h : isK i r = true
  · rw [if_pos h]
    simp only [h, true_and]
    cases f r with
    | ok k r1 =>
      obtain ⟨k, mk⟩ := k
      simp only
      cases hr : r1[i]? with
      | none => rfl
      | some o =>
        cases o with
        | none => rfl
        | some z =>
          obtain ⟨z, mz⟩ := z
          cases z with
          | k ks vs =>
            cases mz with
            | a =>
              simp only
              by_cases hc : kyT k = true ∧ x.flat = true ∧ ks.length < LIM
              · rw [if_pos hc]
                simp only [eq_iff_iff]
                exact ⟨fun z => ⟨hc.1, hc.2.1, hc.2.2, z⟩, fun ⟨_, _, _, z⟩ => z⟩
              · rw [if_neg hc]
                simp only [false_iff, eq_iff_iff]
                rintro ⟨h1, h2, h3, _⟩
                exact hc ⟨h1, h2, h3⟩
            | c => rfl
            | t => rfl
          | _ => rfl
    | ex _ _ _ => rfl
    | no => rfl
  · rw [if_neg h]
    simp [h]
@[simp] theorem isK_0 : isK 0 (some (.k ks vs, .a) :: r) = true := id rfl
@[simp] theorem isK_s {o : Option Vl} {i : Nat} : isK (i + 1) (o :: r) = isK i r := id rfl
@[simp] theorem isKs_0 : isKs 0 (some (.k ks vs, m) :: r) = true := id rfl
@[simp] theorem isKs_s {o : Option Vl} {i : Nat} : isKs (i + 1) (o :: r) = isKs i r := id rfl
@[simp] theorem ownV_k {xs ys : List Dt} : ownV (.k xs ys) = (.k xs ys, .a) := id rfl
end
structure KeyF {α : Type} (f : α → Dt) : Prop where
  ok : ∀ a, kyT (f a) = true
  inj : ∀ a b, keyN (f a) = keyN (f b) → a = b
section
variable {α : Type} [DecidableEq α] {f : α → Dt}
def kget (acc : List (α × Dt)) (a : α) : Option Dt := (acc.find? fun p => decide (p.1 = a)).map (·.2)
def kput (acc : List (α × Dt)) (a : α) (y : Dt) : List (α × Dt) := if (kget acc a).isSome then acc.map (fun p => if p.1 = a then (p.1, y) else p) else acc ++ [(a, y)]
theorem KeyF.iff (F : KeyF f) {a b : α} : keyN (f a) = keyN (f b) ↔ a = b := ⟨F.inj a b, fun h => by rw [h]⟩
theorem KeyF.look (F : KeyF f) (a : α) : ∀ acc : List (α × Dt), lookN (acc.map fun p => f p.1) (acc.map (·.2)) (keyN (f a)) = kget acc a
  | [] => rfl
  | p :: r => by
    have ih := F.look a r
    simp only [List.map_cons, lookN, F.iff]
    by_cases h : p.1 = a
    · simp [kget, h]
    · rw [if_neg h, ih]; simp [kget, h]
theorem KeyF.has (F : KeyF f) (a : α) : ∀ acc : List (α × Dt), hasN (acc.map fun p => f p.1) (f a) = (kget acc a).isSome
  | [] => rfl
  | p :: r => by
    have ih := F.has a r
    unfold hasN at ih ⊢
    rw [List.map_cons, List.any_cons, ih]
    by_cases h : p.1 = a
    · simp [kget, h]
    · have : ¬ keyN (f p.1) = keyN (f a) := fun z => h (F.inj _ _ z)
      simp [kget, h, this]
theorem KeyF.put (F : KeyF f) (a : α) (y : Dt) (acc : List (α × Dt)) : putN (acc.map fun p => f p.1) (acc.map (·.2)) (f a) y = ((kput acc a y).map (fun p => f p.1), (kput acc a y).map (·.2)) := by
  unfold putN kput
  rw [F.has]
  by_cases h : (kget acc a).isSome = true
  · rw [if_pos h, if_pos h]
    clear h
    induction acc with
    | nil => rfl
    | cons p r ih =>
      simp only [Prod.mk.injEq] at ih
      simp only [List.map_cons, List.zipWith_cons_cons, F.iff, Prod.mk.injEq]
      by_cases h : p.1 = a
      · simp only [h, if_true]
        exact ⟨by rw [← ih.1], by rw [← ih.2]⟩
      · simp only [if_neg h]
        exact ⟨by rw [← ih.1], by rw [← ih.2]⟩
  · rw [if_neg h, if_neg h]
    simp
theorem kget_none {a : α} {acc : List (α × Dt)} : kget acc a = none ↔ a ∉ acc.map (·.1) := by
  unfold kget
  rw [Option.map_eq_none_iff, List.find?_eq_none]
  constructor
  · intro h z
    obtain ⟨p, hp, e⟩ := List.mem_map.mp z
    exact h p hp (by simpa using e)
  · intro h p hp z
    exact h (List.mem_map.mpr ⟨p, hp, by simpa using z⟩)
end
end Y
namespace Y
section
variable {α : Type} [DecidableEq α] {nx : α → List α} {a : α}
inductive Pth (nx : α → List α) : Nat → α → α → Prop
  | z (a : α) : Pth nx 0 a a
  | s {n : Nat} {a b c : α} : Pth nx n a b → c ∈ nx b → Pth nx (n + 1) a c
def Dst (nx : α → List α) (n : Nat) (a b : α) : Prop := Pth nx n a b ∧ ∀ e, Pth nx e a b → n ≤ e
theorem pth_dst {n : Nat} {a b : α} (h : Pth nx n a b) : ∃ d, d ≤ n ∧ Dst nx d a b := by
  induction n using Nat.strongRecOn generalizing b with
  | ind n ih =>
    by_cases c : ∃ e, e < n ∧ Pth nx e a b
    · obtain ⟨e, h1, h2⟩ := c
      obtain ⟨d, h3, h4⟩ := ih e h1 h2
      exact ⟨d, by omega, h4⟩
    · exact ⟨n, Nat.le_refl _, h, fun e he => Nat.le_of_not_lt fun z => c ⟨e, z, he⟩⟩
/-- behind k layers -/
structure BfI (nx : α → List α) (a : α) (k : Nat) (fd : List (α × Nat)) (ly : List α) : Prop where
  nd : (fd.map (·.1)).Nodup
  dst : ∀ c d, (c, d) ∈ fd → Dst nx d a c ∧ d ≤ k
  all : ∀ c d, d ≤ k → Dst nx d a c → (c, d) ∈ fd
  lay : ∀ c, c ∈ ly ↔ Dst nx k a c
  lnd : ly.Nodup
theorem BfI.mem {k : Nat} {fd : List (α × Nat)} {ly : List α} (I : BfI nx a k fd ly) {c : α} : c ∈ fd.map (·.1) ↔ ∃ d, d ≤ k ∧ Dst nx d a c := by
  constructor
  · intro h
    obtain ⟨⟨c', d⟩, h1, rfl⟩ := List.mem_map.mp h
    exact ⟨d, (I.dst _ _ h1).2, (I.dst _ _ h1).1⟩
  · rintro ⟨d, h1, h2⟩
    exact List.mem_map.mpr ⟨(c, d), I.all c d h1 h2, rfl⟩
end
end Y
namespace Y
open PySem L2
section
variable {α : Type} [DecidableEq α] {f : α → Dt}
theorem look_mem {t : α} {d : Nat} : ∀ {fd : List (α × Nat)}, (fd.map (·.1)).Nodup → (t, d) ∈ fd → fd.find? (fun p => decide (p.1 = t)) = some (t, d)
  | [], _, h => nomatch h
  | p :: r, hn, h => by
    rw [List.map_cons, List.nodup_cons] at hn
    rcases List.mem_cons.mp h with e | h
    · subst e; simp
    · have : ¬ p.1 = t := fun e => hn.1 (by rw [e]; exact List.mem_map.mpr ⟨_, h, rfl⟩)
      rw [List.find?_cons, decide_eq_false this]
      exact look_mem hn.2 h
end
end Y
namespace Y
open PySem L2
abbrev HS := List (List Int) × List Int
def fH (c : HS) : Dt := hs c.1 c.2
theorem kyL_ints : ∀ ns : List Int, kyL (ns.map .i) = true
  | [] => rfl
  | n :: ns => by rw [List.map_cons, kyL, kyL_ints ns]; rfl
theorem keyNs_ints : ∀ ns : List Int, keyNs (ns.map .i) = ns.map PySem.NestedKey.num
  | [] => rfl
  | n :: ns => by rw [List.map_cons, keyNs, keyNs_ints ns]; rfl
theorem dpA_ints : ∀ ns : List Int, PySem.NestedKey.depthAll (ns.map PySem.NestedKey.num) = 0
  | [] => rfl
  | n :: ns => by rw [List.map_cons, PySem.NestedKey.depthAll, dpA_ints ns]; rfl
theorem nums_inj : ∀ {a b : List Int}, a.map PySem.NestedKey.num = b.map PySem.NestedKey.num → a = b
  | [], [], _ => rfl
  | [], _ :: _, h => by simp at h
  | _ :: _, [], h => by simp at h
  | x :: a, y :: b, h => by
    simp only [List.map_cons, List.cons.injEq, PySem.NestedKey.num.injEq] at h
    rw [h.1, nums_inj h.2]
def rowN (r : List Int) : PySem.NestedKey := .tup (r.map .num)
theorem kyL_rows : ∀ R : List (List Int), kyL (R.map rm) = true
  | [] => rfl
  | r :: R => by
    rw [List.map_cons, kyL, kyL_rows R]
    show (kyL (r.map .i) && true) = true
    rw [kyL_ints]; rfl
theorem keyNs_rows : ∀ R : List (List Int), keyNs (R.map rm) = R.map rowN
  | [] => rfl
  | r :: R => by
    rw [List.map_cons, keyNs, keyNs_rows R]
    show (PySem.NestedKey.tup (keyNs (r.map .i))) :: _ = _
    rw [keyNs_ints]; rfl
theorem dpA_rows : ∀ R : List (List Int), PySem.NestedKey.depthAll (R.map rowN) ≤ 1
  | [] => by simp [PySem.NestedKey.depthAll]
  | r :: R => by
    have := dpA_rows R
    rw [List.map_cons, PySem.NestedKey.depthAll]
    show max (PySem.NestedKey.depth (.tup (r.map .num))) _ ≤ 1
    rw [PySem.NestedKey.depth, dpA_ints]
    omega
theorem rows_inj : ∀ {a b : List (List Int)}, a.map rowN = b.map rowN → a = b
  | [], [], _ => rfl
  | [], _ :: _, h => by simp at h
  | _ :: _, [], h => by simp at h
  | x :: a, y :: b, h => by
    simp only [List.map_cons, List.cons.injEq, rowN, PySem.NestedKey.tup.injEq] at h
    rw [nums_inj h.1, rows_inj h.2]
theorem keyN_hs (R : List (List Int)) (D : List Int) : keyN (hs R D) = .tup [.tup (R.map rowN), .tup (D.map .num)] := by
  simp only [hs, keyN, keyNs, keyNs_rows, keyNs_ints]
theorem key_fH : KeyF fH := by
  refine ⟨fun c => ?_, fun a b h => ?_⟩
  · have := dpA_rows c.1
    simp only [fH, hs, kyT, kyL, kyD, kyL_rows, kyL_ints, Bool.and_self, Bool.true_and, keyNs, keyN, keyNs_rows, keyNs_ints, PySem.NestedKey.depthAll, PySem.NestedKey.depth, dpA_ints, decide_eq_true_eq]
    omega
  · simp only [fH, keyN_hs, PySem.NestedKey.tup.injEq, List.cons.injEq, and_true] at h
    exact Prod.ext (rows_inj h.1) (nums_inj h.2)
theorem fH_flat (c : HS) : (fH c).flat = true := flat_hs c.1 c.2
/-- a step -/
def bhS (c : HS) (p : Int × Int) : HS := (behR c.1 p.1 (p.2 - 1).toNat, c.2.set (p.2 - 1).toNat p.1)
def nxH (c : HS) : List HS := (steps c.1 c.2).map (bhS c)
section
variable {folk : List Int} {d n : Nat} {a c : HS}
theorem bhS_k (c : HS) (w : Int) (k : Nat) : bhS c (w, (k : Int) + 1) = (behR c.1 w k, c.2.set k w) := by
  unfold bhS
  simp
theorem pth_runH (f : Fk folk) (h0 : Hou folk d a.1 a.2) : ∀ {n : Nat} {c : HS}, Pth nxH n a c → ∃ ps, ps.length = n ∧ Run d a.1 a.2 ps c.1 c.2 := by
  intro n
  induction n with
  | zero =>
    intro c h
    cases h
    exact ⟨[], rfl, .nil⟩
  | succ n ih =>
    intro c h
    cases h with
    | s h1 h2 =>
      obtain ⟨ps, l, hr⟩ := ih h1
      obtain ⟨p, hp, rfl⟩ := List.mem_map.mp h2
      obtain ⟨k, hk, e, l2⟩ := steps_let f (hr.hou f h0) hp
      have := hr.snoc hk l2
      rw [e, bhS_k]
      exact ⟨_, by simp [l], this⟩
theorem let_steps (h : Hou folk d a.1 a.2) {w : Int} {k : Nat} (hk : k < d) (l : Let a.1 a.2 w k) : (w, (k : Int) + 1) ∈ steps a.1 a.2 :=
  mem_steps.mpr ⟨k, by rw [h.ld]; exact hk, rfl, l.imp id fun z => z.2⟩
theorem pth_hou (f : Fk folk) (h0 : Hou folk d a.1 a.2) {c : HS} (h : Pth nxH n a c) : Hou folk d c.1 c.2 := by
  obtain ⟨ps, _, hr⟩ := pth_runH f h0 h
  exact hr.hou f h0
def tupL {α : Type} (xs : List α) : Nat → List (List α)
  | 0 => [[]]
  | n + 1 => (tupL xs n).flatMap fun l => xs.map fun x => x :: l
theorem tupL_len {α : Type} (xs : List α) : ∀ n, (tupL xs n).length = xs.length ^ n
  | 0 => rfl
  | n + 1 => by
    rw [tupL, List.length_flatMap, Nat.pow_succ, ← tupL_len xs n]
    simp only [List.length_map]
    rw [List.map_const', List.sum_replicate_nat]
theorem mem_tupL {α : Type} {xs : List α} : ∀ {l : List α}, (∀ x ∈ l, x ∈ xs) → l ∈ tupL xs l.length
  | [], _ => by simp [tupL]
  | x :: l, h => by
    rw [List.length_cons, tupL]
    exact List.mem_flatMap.mpr ⟨l, mem_tupL fun y hy => h y (List.mem_cons_of_mem _ hy), List.mem_map.mpr ⟨x, h x List.mem_cons_self, rfl⟩⟩
theorem len_sub' {α : Type} [DecidableEq α] : ∀ {xs ys : List α}, xs.Nodup → (∀ x ∈ xs, x ∈ ys) → xs.length ≤ ys.length
  | [], _, _, _ => by simp
  | x :: xs, ys, nd, h => by
    have hx := h x List.mem_cons_self
    have nd' := List.nodup_cons.mp nd
    have := len_sub' (ys := ys.erase x) nd'.2 fun z hz => (List.mem_erase_of_ne fun e => nd'.1 (by rw [← e]; exact hz)).mpr (h z (List.mem_cons_of_mem _ hz))
    rw [List.length_erase_of_mem hx] at this
    have := List.length_pos_of_mem hx
    simp only [List.length_cons]
    omega
theorem map_nd {α β : Type} {g : α → β} : ∀ {l : List α}, l.Nodup → (∀ x ∈ l, ∀ y ∈ l, g x = g y → x = y) → (l.map g).Nodup
  | [], _, _ => by simp
  | x :: l, nd, h => by
    obtain ⟨n1, n2⟩ := List.nodup_cons.mp nd
    rw [List.map_cons, List.nodup_cons]
    refine ⟨fun z => ?_, map_nd n2 fun u hu v hv => h u (List.mem_cons_of_mem _ hu) v (List.mem_cons_of_mem _ hv)⟩
    obtain ⟨y, hy, e⟩ := List.mem_map.mp z
    exact n1 (by rw [← h y (List.mem_cons_of_mem _ hy) x List.mem_cons_self e]; exact hy)
/-- the room of one -/
def ixR (R : List (List Int)) (w : Int) : Nat := R.findIdx fun r => decide (w ∈ r)
theorem ixR_at {R : List (List Int)} {D : List Int} (f : Fk folk) (h : Hou folk d R D) {w : Int} (hw : w ∈ folk) : ixR R w < d + 1 ∧ ∀ j, w ∈ R.getD j [] ↔ j = ixR R w := by
  have hm : w ∈ R.flatten := h.perm.mem_iff.mpr hw
  obtain ⟨r, hr, hwr⟩ := List.mem_flatten.mp hm
  have lt : ixR R w < R.length := List.findIdx_lt_length_of_exists ⟨r, hr, by simpa using hwr⟩
  have at_ : w ∈ R.getD (ixR R w) [] := by
    have := List.findIdx_getElem (p := fun r => decide (w ∈ r)) (xs := R) (w := lt)
    rw [List.getD_eq_getElem?_getD, List.getElem?_eq_getElem lt]
    unfold ixR
    simpa using this
  refine ⟨by rw [← h.lr]; exact lt, fun j => ⟨fun hj => ?_, fun e => by rw [e]; exact at_⟩⟩
  by_cases q : j < ixR R w
  · exact (h.one f q hj at_).elim
  · by_cases q2 : ixR R w < j
    · exact (h.one f q2 at_ hj).elim
    · omega
theorem hou_ext {R R' : List (List Int)} {D D' : List Int} (f : Fk folk) (h : Hou folk d R D) (h' : Hou folk d R' D') (e : folk.map (ixR R) = folk.map (ixR R')) : R = R' := by
  have e' : ∀ w ∈ folk, ixR R w = ixR R' w := List.map_inj_left.mp e
  apply List.ext_getElem?
  intro j
  by_cases hj : j < d + 1
  · have l1 : j < R.length := by rw [h.lr]; exact hj
    have l2 : j < R'.length := by rw [h'.lr]; exact hj
    rw [List.getElem?_eq_getElem l1, List.getElem?_eq_getElem l2]
    congr 1
    have g1 : R.getD j [] = R[j] := by rw [List.getD_eq_getElem?_getD, List.getElem?_eq_getElem l1]; rfl
    have g2 : R'.getD j [] = R'[j] := by rw [List.getD_eq_getElem?_getD, List.getElem?_eq_getElem l2]; rfl
    have s1 := h.srt _ (List.getElem_mem l1)
    have s2 := h'.srt _ (List.getElem_mem l2)
    refine List.Perm.eq_of_pairwise (le := fun a b => a < b) (fun a b _ _ h1 h2 => by omega) s1 s2 ((List.perm_ext_iff_of_nodup (s1.imp fun h => by omega) (s2.imp fun h => by omega)).mpr fun w => ?_)
    constructor
    · intro hw
      have hf := h.mem (List.getElem_mem l1) hw
      rw [← g2]
      rw [← g1] at hw
      exact ((ixR_at f h' hf).2 j).mpr ((((ixR_at f h hf).2 j).mp hw).trans (e' w hf))
    · intro hw
      have hf := h'.mem (List.getElem_mem l2) hw
      rw [← g1]
      rw [← g2] at hw
      exact ((ixR_at f h hf).2 j).mpr ((((ixR_at f h' hf).2 j).mp hw).trans (e' w hf).symm)
  · rw [List.getElem?_eq_none (by rw [h.lr]; omega), List.getElem?_eq_none (by rw [h'.lr]; omega)]
theorem run_mem (f : Fk folk) (h0 : Hou folk d a.1 a.2) {ps : List (Int × Int)} {R : List (List Int)} {D : List Int} (h : Run d a.1 a.2 ps R D) : ∀ m ∈ D, m ∈ a.2 ++ folk := by
  induction h with
  | nil => exact fun m hm => List.mem_append_left _ hm
  | @snoc ps R D w k h hk l ih =>
    intro m hm
    rcases List.mem_or_eq_of_mem_set hm with z | rfl
    · exact ih m z
    · exact List.mem_append_right _ (l.mem (h.hou f h0) hk)
theorem few_H (f : Fk folk) (h0 : Hou folk d a.1 a.2) (l : List HS) (nd : l.Nodup) (h : ∀ c ∈ l, ∃ e, Dst nxH e a c) : l.length ≤ (d + 1) ^ folk.length * (d + folk.length) ^ d := by
  have hr : ∀ c ∈ l, Hou folk d c.1 c.2 ∧ ∀ m ∈ c.2, m ∈ a.2 ++ folk := fun c hc => by
    obtain ⟨e, he⟩ := h c hc
    obtain ⟨ps, _, hr⟩ := pth_runH f h0 he.1
    exact ⟨hr.hou f h0, run_mem f h0 hr⟩
  let φ : HS → List Nat × List Int := fun c => (folk.map (ixR c.1), c.2)
  have n1 : (l.map φ).Nodup := map_nd nd fun x hx y hy e => by
    simp only [φ, Prod.mk.injEq] at e
    exact Prod.ext (hou_ext f (hr x hx).1 (hr y hy).1 e.1) e.2
  have n2 := len_sub' (ys := (tupL (List.range (d + 1)) folk.length).flatMap fun p => (tupL (a.2 ++ folk) d).map fun q => (p, q)) n1 fun y hy => by
    obtain ⟨c, hc, rfl⟩ := List.mem_map.mp hy
    obtain ⟨hh, hm⟩ := hr c hc
    refine List.mem_flatMap.mpr ⟨folk.map (ixR c.1), ?_, List.mem_map.mpr ⟨c.2, ?_, rfl⟩⟩
    · have := mem_tupL (xs := List.range (d + 1)) (l := folk.map (ixR c.1)) fun x hx => by
        obtain ⟨w, hw, rfl⟩ := List.mem_map.mp hx
        exact List.mem_range.mpr (ixR_at f hh hw).1
      rwa [List.length_map] at this
    · have := mem_tupL (xs := a.2 ++ folk) (l := c.2) hm
      rwa [hh.ld] at this
  rw [List.length_map, List.length_flatMap] at n2
  have e : ((tupL (List.range (d + 1)) folk.length).map fun p => ((tupL (a.2 ++ folk) d).map fun q => (p, q)).length).sum = (d + 1) ^ folk.length * (d + folk.length) ^ d := by
    simp only [List.length_map, tupL_len, List.length_append, h0.ld]
    rw [List.map_const', List.sum_replicate_nat, tupL_len, List.length_range]
  rw [e] at n2
  exact n2
end
theorem shp_l {d : Nat} {xs : List Dt} (h : ∀ x ∈ xs, pl d x = true) (hd : d ≤ 59) : shp (.l xs) = true := by
  obtain ⟨h1, h2⟩ := plL_can d xs h
  simp [shp, SeqAt.shaped, toP, PyData.canLay0, PyData.depth, h1]; omega
theorem shp_nil : shp (.l []) = true := shp_l (d := 1) (fun _ h => nomatch h) (by omega)
theorem wO_neLy {α : Type} {f : α → Dt} {ly : List α} {d : Nat} {Q : Dt → Md → Prop} (h : ∀ c ∈ ly, pl d (f c) = true) (hd : d ≤ 59) : wO (fNe [.l (ly.map f), .l []]) Q = Q (.b (!ly.isEmpty)) .c := by
  rw [wO_neL, eqD_l0]
  have h1 : shp (.l (ly.map f)) = true := shp_l (d := d) (fun x hx => by
    obtain ⟨c, hc, rfl⟩ := List.mem_map.mp hx
    exact h c hc) hd
  have e : (ly.map f).isEmpty = ly.isEmpty := by cases ly <;> rfl
  simp [h1, shp_nil, e]
section
variable {α β : Type} [DecidableEq α] [DecidableEq β] {g : α → β} {f : β → Dt}
structure MnI (g : α → β) (S : List (α × Nat)) (gd : List (β × Nat)) : Prop where
  nd : (gd.map (·.1)).Nodup
  mem : ∀ b e, (b, e) ∈ gd ↔ (∃ c, (c, e) ∈ S ∧ g c = b) ∧ ∀ c e', (c, e') ∈ S → g c = b → e ≤ e'
theorem MnI.nil : MnI g [] [] := ⟨by simp, fun b e => by simp⟩
theorem MnI.key {S : List (α × Nat)} {gd : List (β × Nat)} (I : MnI g S gd) {b : β} : b ∈ gd.map (·.1) ↔ ∃ c e, (c, e) ∈ S ∧ g c = b := by
  constructor
  · intro h
    obtain ⟨⟨b', e⟩, h1, rfl⟩ := List.mem_map.mp h
    obtain ⟨⟨c, h2, h3⟩, _⟩ := (I.mem b' e).mp h1
    exact ⟨c, e, h2, h3⟩
  · rintro ⟨c, e, h1, rfl⟩
    have : ∀ n, ∀ c' e, (c', e) ∈ S → g c' = g c → e ≤ n → g c ∈ gd.map (·.1) := by
      intro n
      induction n with
      | zero => exact fun c' e h1 h2 h3 => List.mem_map.mpr ⟨(g c, e), (I.mem _ _).mpr ⟨⟨c', h1, h2⟩, fun _ _ _ _ => by omega⟩, rfl⟩
      | succ n ih =>
        intro c' e h1 h2 h3
        by_cases q : ∃ c'' e'', (c'', e'') ∈ S ∧ g c'' = g c ∧ e'' < e
        · obtain ⟨c'', e'', k1, k2, k3⟩ := q
          exact ih c'' e'' k1 k2 (by omega)
        · exact List.mem_map.mpr ⟨(g c, e), (I.mem _ _).mpr ⟨⟨c', h1, h2⟩, fun c'' e'' k1 k2 => Nat.le_of_not_lt fun k3 => q ⟨c'', e'', k1, k2, k3⟩⟩, rfl⟩
    exact this e c e h1 rfl (Nat.le_refl _)
end
theorem alike_rows : ∀ R R' : List (List Int), PySem.W.alikeAll (toPL (R.map rm)) (toPL (R'.map rm)) = true
  | [], R' => by cases R' <;> simp [toPL, PySem.W.alikeAll]
  | _ :: _, [] => by simp [toPL, PySem.W.alikeAll]
  | r :: R, r' :: R' => by
    have := alike_rows R R'
    have e : ∀ ns : List Int, toPL (ns.map Dt.i) = ns.map PyData.int := fun ns => by
      induction ns with
      | nil => rfl
      | cons n ns ih => simp only [List.map_cons, toPL, toP, ih]
    simp only [List.map_cons, toPL, PySem.W.alikeAll, this, Bool.and_true]
    show PySem.W.alike (.tuple (toPL (r.map .i))) (.tuple (toPL (r'.map .i))) = true
    rw [e, e]
    simp [PySem.W.alike, PySem.W.alike_ints]
theorem alike_nums (ns ms : List Int) : PySem.W.alikeAll (toPL (ns.map .i)) (toPL (ms.map .i)) = true := by
  have e : ∀ ns : List Int, toPL (ns.map Dt.i) = ns.map PyData.int := fun ns => by
    induction ns with
    | nil => rfl
    | cons n ns ih => simp only [List.map_cons, toPL, toP, ih]
  rw [e, e]
  exact PySem.W.alike_ints ns ms
theorem alike_fH (c c' : HS) : PySem.W.alike (toP (fH c)) (toP (fH c')) = true := by
  simp only [fH, hs, toP, toPL, PySem.W.alike, PySem.W.alikeAll, alike_rows, alike_nums, Bool.and_self]
section
variable {α : Type} {g : α → Dt}
theorem okSort_map {d : Nat} {L : List α} (h1 : ∀ a b, PySem.W.alike (toP (g a)) (toP (g b)) = true) (h2 : ∀ a, ∃ x r, g a = .t (x :: r)) (h3 : ∀ a ∈ L, pl d (g a) = true) (hd : d ≤ 50) (hl : L.length ≤ LIM) : okSort (L.map g) = true := by
  simp only [okSort, Bool.and_eq_true, List.all_eq_true, decide_eq_true_eq, List.length_map]
  refine ⟨⟨⟨?_, ?_⟩, fun x hx => ?_⟩, hl⟩
  · simp only [alikeL, List.all_eq_true, List.mem_map]
    rintro _ ⟨_, ⟨a, _, rfl⟩, rfl⟩ _ ⟨_, ⟨b, _, rfl⟩, rfl⟩
    exact h1 a b
  · simp only [sortable, Bool.or_eq_true, List.all_eq_true, List.mem_map]
    refine .inl ?_
    rintro _ ⟨_, ⟨a, _, rfl⟩, rfl⟩
    obtain ⟨x, r, e⟩ := h2 a
    rw [e]; rfl
  · obtain ⟨a, ha, rfl⟩ := List.mem_map.mp hx
    have := (pl_can d _ (h3 a ha)).2
    omega
theorem sort_map (L : List α) : ∃ L' : List α, L'.Perm L ∧ sortD (L.map g) = L'.map g := by
  refine ⟨L.mergeSort fun a b => leD (g a) (g b), List.mergeSort_perm _ _, ?_⟩
  have := List.map_mergeSort (f := g) (r := fun a b => leD (g a) (g b)) (s := leD) (l := L) (fun a _ b _ => rfl)
  rw [this]; rfl
end
end Y
namespace Y
open L2 PySem
section
variable {r : Ev} {QI : List Dt → Ev → Prop} {Qn : Ev → Prop} {Qr : Vl → Ev → Prop} {Qb Qc : Ev → Prop} {i j : Nat} {f : Ev → Ou Vl}
@[simp] theorem wS_setD : wS (sSetD i j f) r Qn Qr Qb Qc = (isK i r = true ∧ wE f r fun k r1 => match r1[i]?, r1[j]? with
    | some (some (.k ks vs, .a)), some (some (y, _)) => kyT k.1 = true ∧ y.flat = true ∧ ks.length < LIM ∧ setK r1 i (some (.k (setdN ks vs k.1 y).1 (setdN ks vs k.1 y).2, .a)) Qn
    | _, _ => False) := by
  unfold wS sSetD wE setK
  by_cases h : isK i r = true
  · rw [if_pos h]
    simp only [h, true_and, sWith]
    cases f r with
    | ok k r1 =>
      obtain ⟨k, mk⟩ := k
      simp only
      cases r1[i]? with
      | none => rfl
      | some o =>
        cases o with
        | none => rfl
        | some z =>
          obtain ⟨z, mz⟩ := z
          cases z with
          | k ks vs =>
            cases mz with
            | a =>
              cases r1[j]? with
              | none => rfl
              | some o =>
                cases o with
                | none => rfl
                | some y =>
                  obtain ⟨y, my⟩ := y
                  simp only
                  by_cases hc : kyT k = true ∧ y.flat = true ∧ ks.length < LIM
                  · rw [if_pos hc]
                    simp only [eq_iff_iff]
                    exact ⟨fun z => ⟨hc.1, hc.2.1, hc.2.2, z⟩, fun ⟨_, _, _, z⟩ => z⟩
                  · rw [if_neg hc]
                    simp only [false_iff, eq_iff_iff]
                    rintro ⟨h1, h2, h3, _⟩
                    exact hc ⟨h1, h2, h3⟩
            | c => rfl
            | t => rfl
          | _ => rfl
    | ex _ _ _ => rfl
    | no => rfl
  · rw [if_neg h]
    simp [h]
@[simp] theorem wI_keys : wI (sKeys i) r QI = (match r[i]? with
    | some (some (.k ks vs, .a)) => setK r i (some (.k ks vs, .c)) (QI ks)
    | _ => False) := by
  unfold wI sKeys setK
  cases r[i]? with
  | none => rfl
  | some o =>
    cases o with
    | none => rfl
    | some z =>
      obtain ⟨z, mz⟩ := z
      cases z with
      | k ks vs => cases mz <;> rfl
      | _ => rfl
@[simp] theorem wI_items : wI (sItems i) r QI = (match r[i]? with
    | some (some (.k ks vs, .a)) => setK r i (some (.k ks vs, .c)) (QI (kvD ks vs))
    | _ => False) := by
  unfold wI sItems setK
  cases r[i]? with
  | none => rfl
  | some o =>
    cases o with
    | none => rfl
    | some z =>
      obtain ⟨z, mz⟩ := z
      cases z with
      | k ks vs => cases mz <;> rfl
      | _ => rfl
@[simp] theorem wI_itemsE : wI (sItemsE f) r QI = wE f r fun y r1 => match y with
    | (.k ks vs, .a) => QI (kvD ks vs) r1
    | _ => False := by
  unfold wI sItemsE wE
  cases f r with
  | ok y r1 =>
    obtain ⟨y, m⟩ := y
    cases y with
    | k ks vs => cases m <;> rfl
    | _ => rfl
  | ex _ _ _ => rfl
  | no => rfl
@[simp] theorem wI_keysE : wI (sKeysE f) r QI = wE f r fun y r1 => match y with
    | (.k ks vs, .a) => QI ks r1
    | _ => False := by
  unfold wI sKeysE wE
  cases f r with
  | ok y r1 =>
    obtain ⟨y, m⟩ := y
    cases y with
    | k ks vs => cases m <;> rfl
    | _ => rfl
  | ex _ _ _ => rfl
  | no => rfl
end
section
variable {ks vs : List Dt} {Q : Dt → Md → Prop}
@[simp] theorem wO_listKN : wO (fListKN [.k ks vs]) Q = (ks.length ≤ LIM ∧ Q (.l ks) .t) := by
  simp only [fListKN]
  by_cases h : ks.length ≤ LIM
  · rw [if_pos h]; simp [wO, h]
  · rw [if_neg h]; simp [wO, h]
theorem wO_sortKN : wO (fSortKN [.k ks vs]) Q = (okSort ks = true ∧ Q (.l (sortD ks)) .t) := by
  simp only [fSortKN]
  by_cases h : okSort ks = true
  · rw [if_pos h]; simp [wO, h]
  · rw [if_neg h]; simp [wO, h]
end
end Y
namespace Y
open PySem L2
end Y
namespace Y
open PySem L2 PyProof.Rows
end Y
namespace Y
open PySem L2 PyProof.Rows
end Y
namespace Y
open PySem L2 PyProof.Rows
/-- one parameter, no other name of its own: captured ones and globals -/
structure LamS1 (sc scope : Scope) (a : Str) : Prop where
  kind : scope.kind = .function
  co : scope.isCoroutine = false
  gen : scope.isGenerator = false
  own : ∀ y ∈ scope.names, y.2 ≠ .cell ∧ (y.2 = .local → y.1 = a)
  par : scope.names.lookup a = some .local
  free : ∀ y ∈ scope.names, y.2 = .free → sc.names.lookup y.1 = some .cell ∨ sc.names.lookup y.1 = some .free
theorem LamS1.has {X : Cx} {scope : Scope} {a : Str} (L : LamS1 X.env.scope scope a) (ok : X.Ok) : ∀ y ∈ scope.names, y.2 = .free → ∃ c, X.env.cells.lookup y.1 = some c := fun y hy e => by
  rcases L.free y hy e with k | k
  · exact ok.has _ (.inl k)
  · exact ok.has _ (.inr k)
end Y
namespace Y
open PySem L2 PyProof.Rows
end Y
namespace Y
open PySem L2 PyProof.Rows
end Y
namespace Y
open PySem L2 PyProof.Rows
end Y
namespace Y
open PySem L2 PyProof.Rows PySem.W PySem.Calls
/-- the key of a pair -/
def kP : Dt → Int
  | .t (.i n :: _) => n
  | _ => 0
def isI : Dt → Bool
  | .i _ => true
  | _ => false
/-- the pairs of a dict of numbers by their keys -/
def sortKvs (ks vs : List Dt) : List Dt := (zipD ks vs).mergeSort fun p q => decide (kP p ≤ kP q)
/-- sorted(name.items(), key=lambda p: p[0]) -/
def mSortV (i : Nat) : Ev → Ou Vl := fun r => match r[i]? with
  | some (some (.m ks vs, .a)) => if ks.all isI = true ∧ vs.all Dt.flat = true then .ok (.l (sortKvs ks vs), .t) r else .no
  | _ => .no
section
variable {K : PySem.W.Frag} {M M' : Addr → Prop} {H H' : Hp}
theorem SW.trans {H2 : Hp} (a : SW K H H') (b : SW K H' H2) : SW K H H2 := ⟨fun c o e n => b.st c o (a.st c o e n) n, b.tb, fun c e => a.dm c (b.dm c e)⟩
end
end Y
namespace Y
open PySem L2 PyProof.Rows
section
variable {X : Cx} {K : PySem.W.Frag}
def fSrtSetA : List Dt → Option Vl
  | [.l xs] => match intsL xs with
    | some ns => if ns.length < 64 then some (.l ((ssrt ns).map .i), .t) else none
    | none => none
  | [.t xs] => match intsL xs with
    | some ns => if ns.length < 64 then some (.l ((ssrt ns).map .i), .t) else none
    | none => none
  | _ => none
end
end Y
namespace Y
open PySem L2
end Y
namespace Y
open PySem L2 PyProof.Rows
end Y
namespace Y
open PySem L2 PyProof.Rows
end Y
namespace Y
open PySem L2 PyProof.Rows
@[simp] theorem wI_valsM {i : Nat} {r : Ev} {QI : List Dt → Ev → Prop} : wI (sValsM i) r QI = (match r[i]? with
    | some (some (.m ks vs, .a)) => setK r i (some (.m ks vs, .c)) (QI vs)
    | _ => False) := by
  unfold wI sValsM setK
  cases r[i]? with
  | none => rfl
  | some o =>
    cases o with
    | none => rfl
    | some z =>
      obtain ⟨z, mz⟩ := z
      cases z with
      | m ks vs => cases mz <;> rfl
      | _ => rfl
end Y
namespace Y
open PySem L2 PyProof.Rows
@[simp] theorem wL_enumZ {QL : List Dt → Prop} {k0 : Int} {xs ys : List Dt} : wL (sEnumZ k0 [.l xs, .l ys]) QL = QL (enumD k0 (zipD xs ys)) := id rfl
@[simp] theorem wL_enumZT {QL : List Dt → Prop} {k0 : Int} {xs ys : List Dt} : wL (sEnumZ k0 [.t xs, .t ys]) QL = QL (enumD k0 (zipD xs ys)) := id rfl
@[simp] theorem wE_sortV {i : Nat} {r : Ev} {Q : Vl → Ev → Prop} : wE (mSortV i) r Q = (match r[i]? with
    | some (some (.m ks vs, .a)) => (ks.all isI = true ∧ vs.all Dt.flat = true) ∧ Q (.l (sortKvs ks vs), .t) r
    | _ => False) := by
  unfold wE mSortV
  cases r[i]? with
  | none => rfl
  | some o =>
    cases o with
    | none => rfl
    | some z =>
      obtain ⟨z, mz⟩ := z
      cases z with
      | m ks vs =>
        cases mz with
        | c => rfl
        | t => rfl
        | a =>
          simp only
          by_cases hc : ks.all isI = true ∧ vs.all Dt.flat = true
          · simp only [if_pos hc]; exact propext ⟨fun z => ⟨hc, z⟩, fun z => z.2⟩
          · simp only [if_neg hc]; exact propext ⟨fun z => z.elim, fun z => hc z.1⟩
      | _ => rfl
@[simp] theorem wO_srtSetA {ns : List Int} {Q : Dt → Md → Prop} : wO (fSrtSetA [.l (ns.map .i)]) Q = (ns.length < 64 ∧ Q (.l ((ssrt ns).map .i)) .t) := by
  simp only [fSrtSetA, ints_map]; exact wO_if
@[simp] theorem wO_srtSetAT {ns : List Int} {Q : Dt → Md → Prop} : wO (fSrtSetA [.t (ns.map .i)]) Q = (ns.length < 64 ∧ Q (.l ((ssrt ns).map .i)) .t) := by
  simp only [fSrtSetA, ints_map]; exact wO_if
end Y
namespace Y
open PySem L2 PyProof.Rows
/-- one's own ways, in order -/
def mn (w : Int) (S : List (Int × Bool)) : List Bool := (S.filter fun p => decide (p.1 = w)).map (·.2)
end Y
namespace Y
open PySem L2 PyProof.Rows
/-- the greatest, or d of none -/
def lmaxD (d : Int) : List Int → Int
  | [] => d
  | a :: ns => lmax a ns
section
variable {X : Cx} {K : PySem.W.Frag} {cl : Str → Addr} {W : WX}
/-- .. on data -/
def fMaxD (d : Int) : List Dt → Option Vl
  | [.l xs] => match intsL xs with
    | some ns => some (.i (lmaxD d ns), .c)
    | none => none
  | _ => none
end
@[simp] theorem wO_maxD {d : Int} {ns : List Int} {Q : Dt → Md → Prop} : wO (fMaxD d [.l (ns.map .i)]) Q = Q (.i (lmaxD d ns)) .c := by simp [fMaxD, ints_map]
def relax (i : Nat) (r : Ev) : Ev := match r[i]? with
  | some (some (.l xs, .a)) => if flatL xs = true then r.set i (some (.l xs, .t)) else r
  | _ => r
def sRx (i : Nat) (g : Ev → So) : Ev → So := fun r => match g r with
  | .nx r' => .nx (relax i r')
  | o => o
@[simp] theorem wS_rx {i : Nat} {g : Ev → So} {r : Ev} {Qn : Ev → Prop} {Qr : Vl → Ev → Prop} {Qb Qc : Ev → Prop} : wS (sRx i g) r Qn Qr Qb Qc = wS g r (fun r' => match r'[i]? with
    | some (some (.l xs, .a)) => wB (flatL xs) (Qn (r'.set i (some (.l xs, .t)))) (Qn r')
    | _ => Qn r') Qr Qb Qc := by
  have key : ∀ (o : Option (Option Vl)) (r' : Ev), Qn (match o with | some (some (.l xs, .a)) => if flatL xs = true then r'.set i (some (.l xs, .t)) else r' | _ => r') = (match o with | some (some (.l xs, .a)) => wB (flatL xs) (Qn (r'.set i (some (.l xs, .t)))) (Qn r') | _ => Qn r') := fun o r' => by
    unfold wB
    rcases o with _ | _ | ⟨x, m⟩
    · rfl
    · rfl
    · cases x with
      | l xs =>
        cases m with
        | a => show Qn (if flatL xs = true then _ else _) = if flatL xs = true then _ else _; split <;> rfl
        | _ => rfl
      | _ => rfl
  unfold wS sRx
  cases g r with
  | nx r' => exact key _ _
  | _ => rfl
end Y
namespace Y
open PySem L2
theorem psrt_leU (ps : List (Int × Int)) : (psrt ps).Pairwise fun a b => ple a b = true :=
  List.pairwise_mergeSort (fun a b c h1 h2 => by unfold ple at *; simp only [decide_eq_true_eq] at *; omega) (fun a b => by unfold ple; simp only [Bool.or_eq_true, decide_eq_true_eq]; omega) ps
theorem psrt_sameU {ps qs : List (Int × Int)} (hp : ps.Nodup) (hq : qs.Nodup) (h : ∀ p, p ∈ ps ↔ p ∈ qs) : psrt ps = psrt qs := by
  refine List.Perm.eq_of_pairwise (le := fun a b => ple a b = true) (fun a b _ _ h1 h2 => ?_) (psrt_leU ps) (psrt_leU qs) (((psrt_perm ps).trans ((List.perm_ext_iff_of_nodup hp hq).mpr h)).trans (psrt_perm qs).symm)
  unfold ple at h1 h2
  simp only [decide_eq_true_eq] at h1 h2
  obtain ⟨a1, a2⟩ := a
  obtain ⟨b1, b2⟩ := b
  simp only at h1 h2
  have e1 : a1 = b1 := by omega
  have e2 : a2 = b2 := by omega
  rw [e1, e2]
section
variable {folk : List Int} {d : Nat} {R : List (List Int)} {D : List Int}
theorem stepAt_ndU (f : Fk folk) (h : Hou folk d R D) {k : Nat} (hk : k < d) : (stepAt R D k).Nodup := by
  have hR : ∀ j, j < d + 1 → (R.getD j []).Nodup := fun j hj => by
    have hlr := h.lr
    have e : R[j]? = some (R.getD j []) := by rw [List.getD_eq_getElem?_getD, List.getElem?_eq_getElem (by omega)]; rfl
    exact (h.srt _ (List.mem_of_getElem? e)).imp fun h => by omega
  have inj : ∀ {l : List Int}, l.Nodup → (l.map fun w => (w, (k : Int) + 1)).Nodup := fun {l} hl => by
    refine List.pairwise_map.mpr (hl.imp fun h e => h (congrArg Prod.fst e))
  refine List.nodup_append.mpr ⟨inj ((hR k (by omega)).filter _), inj ((hR (k + 1) (by omega)).filter _), ?_⟩
  rintro a ha b hb rfl
  obtain ⟨u, hu, rfl⟩ := List.mem_map.mp ha
  obtain ⟨v, hv, e⟩ := List.mem_map.mp hb
  have e : v = u := congrArg Prod.fst e
  subst e
  exact h.one f (Nat.lt_succ_self k) (List.mem_filter.mp hu).1 (List.mem_filter.mp hv).1
theorem stepAt_snd {k : Nat} {p : Int × Int} (h : p ∈ stepAt R D k) : p.2 = (k : Int) + 1 := by
  rcases List.mem_append.mp h with h | h <;> (obtain ⟨w, _, rfl⟩ := List.mem_map.mp h; rfl)
theorem stepsTo_ndU (f : Fk folk) (h : Hou folk d R D) : ∀ {k : Nat}, k ≤ d → (stepsTo R D k).Nodup
  | 0, _ => by simp [stepsTo]
  | k + 1, hk => by
    rw [stepsTo_s]
    refine List.nodup_append.mpr ⟨stepsTo_ndU f h (by omega), stepAt_ndU f h (by omega), ?_⟩
    rintro a ha b hb rfl
    unfold stepsTo at ha
    obtain ⟨j, hj, ha⟩ := List.mem_flatMap.mp ha
    have := List.mem_range.mp hj
    have := stepAt_snd ha
    have := stepAt_snd hb
    omega
theorem steps_nd (f : Fk folk) (h : Hou folk d R D) : (steps R D).Nodup := (psrt_perm _).nodup_iff.mpr (stepsTo_ndU f h (by rw [h.ld]; exact Nat.le_refl _))
theorem flatL_H : ∀ cs : List HS, flatL (cs.map fH) = true
  | [] => rfl
  | c :: cs => by rw [List.map_cons, flatL, fH_flat, flatL_H cs]; rfl
theorem run_head {a : HS} : ∀ {ps : List (Int × Int)} {R : List (List Int)} {D : List Int}, Run d a.1 a.2 ps R D → (ps = [] ∧ (R, D) = a) ∨ ∃ p qs k, ps = p :: qs ∧ k < d ∧ p = (p.1, ((k : Nat) : Int) + 1) ∧ Let a.1 a.2 p.1 k ∧ Run d (bhS a p).1 (bhS a p).2 qs R D := by
  intro ps R D h
  induction h with
  | nil => exact .inl ⟨rfl, rfl⟩
  | @snoc ps R D w k h hk l ih =>
    rcases ih with ⟨rfl, e⟩ | ⟨p, qs, j, rfl, h1, h2, h3, h4⟩
    · cases e
      refine .inr ⟨(w, (k : Int) + 1), [], k, rfl, hk, rfl, l, ?_⟩
      rw [bhS_k]
      exact .nil
    · exact .inr ⟨p, qs ++ [(w, (k : Int) + 1)], j, rfl, h1, h2, h3, h4.snoc hk l⟩
theorem run_cons (f : Fk folk) {a : HS} (h0 : Hou folk d a.1 a.2) {p : Int × Int} (hp : p ∈ steps a.1 a.2) {qs : List (Int × Int)} (h : Run d (bhS a p).1 (bhS a p).2 qs R D) : Run d a.1 a.2 (p :: qs) R D := by
  obtain ⟨k, hk, e, l⟩ := steps_let f h0 hp
  have h1 : Run d a.1 a.2 [p] (bhS a p).1 (bhS a p).2 := by
    have := Run.snoc (.nil : Run d a.1 a.2 [] a.1 a.2) hk l
    rw [List.nil_append] at this
    rw [e, bhS_k]
    exact this
  exact run_trans h1 h
theorem hou_bh (f : Fk folk) {a : HS} (h0 : Hou folk d a.1 a.2) {p : Int × Int} (hp : p ∈ steps a.1 a.2) : Hou folk d (bhS a p).1 (bhS a p).2 := by
  have := run_cons f h0 hp (.nil : Run d (bhS a p).1 (bhS a p).2 [] _ _)
  exact this.hou f h0
end
def mxN : List Nat → Nat
  | [] => 0
  | a :: l => max a (mxN l)
theorem mxN_ge : ∀ {l : List Nat} {a : Nat}, a ∈ l → a ≤ mxN l
  | b :: l, a, h => by
    rcases List.mem_cons.mp h with rfl | h
    · exact Nat.le_max_left _ _
    · exact Nat.le_trans (mxN_ge h) (Nat.le_max_right _ _)
theorem mxN_mem : ∀ {l : List Nat}, l ≠ [] → mxN l ∈ l
  | [a], _ => by simp [mxN]
  | a :: b :: l, _ => by
    have := mxN_mem (l := b :: l) (by simp)
    show max a (mxN (b :: l)) ∈ _
    rcases Nat.le_total a (mxN (b :: l)) with h | h
    · rw [Nat.max_eq_right h]; exact List.mem_cons_of_mem _ this
    · rw [Nat.max_eq_left h]; exact List.mem_cons_self
/-- the most that a row of at most n goings brings, each by its worth -/
def hgt (wt : Int × Int → Nat) : Nat → HS → Nat
  | 0, _ => 0
  | n + 1, c => mxN ((steps c.1 c.2).map fun p => hgt wt n (bhS c p) + wt p)
section
variable {folk : List Int} {d : Nat} {wt : Int × Int → Nat}
theorem hgt_ge (f : Fk folk) : ∀ {n : Nat} {c : HS} {ps : List (Int × Int)} {R : List (List Int)} {D : List Int}, Hou folk d c.1 c.2 → Run d c.1 c.2 ps R D → ps.length ≤ n → (ps.map wt).sum ≤ hgt wt n c
  | 0, c, ps, R, D, h0, h, hn => by
    rw [List.length_eq_zero_iff.mp (Nat.le_zero.mp hn)]
    exact Nat.zero_le _
  | n + 1, c, ps, R, D, h0, h, hn => by
    rcases run_head h with ⟨rfl, _⟩ | ⟨p, qs, k, rfl, hk, ep, l, h1⟩
    · exact Nat.zero_le _
    · have hp : p ∈ steps c.1 c.2 := by rw [ep]; exact let_steps h0 hk l
      have ih := hgt_ge f (hou_bh f h0 hp) h1 (Nat.le_of_succ_le_succ hn)
      have : hgt wt n (bhS c p) + wt p ∈ (steps c.1 c.2).map fun p => hgt wt n (bhS c p) + wt p := List.mem_map.mpr ⟨p, hp, rfl⟩
      have := mxN_ge this
      rw [List.map_cons, List.sum_cons, hgt]
      omega
theorem hgt_at (f : Fk folk) : ∀ (n : Nat) (c : HS), Hou folk d c.1 c.2 → ∃ ps R D, Run d c.1 c.2 ps R D ∧ ps.length ≤ n ∧ (ps.map wt).sum = hgt wt n c
  | 0, c, h0 => ⟨[], _, _, .nil, Nat.le_refl _, rfl⟩
  | n + 1, c, h0 => by
    by_cases e : steps c.1 c.2 = []
    · exact ⟨[], _, _, .nil, Nat.zero_le _, by rw [hgt, e]; rfl⟩
    · have hm := mxN_mem (l := (steps c.1 c.2).map fun p => hgt wt n (bhS c p) + wt p) (by simpa using e)
      obtain ⟨p, hp, e2⟩ := List.mem_map.mp hm
      obtain ⟨ps, R, D, h1, h2, h3⟩ := hgt_at f n (bhS c p) (hou_bh f h0 hp)
      refine ⟨p :: ps, R, D, run_cons f h0 hp h1, by rw [List.length_cons]; omega, ?_⟩
      rw [hgt, ← e2, List.map_cons, List.sum_cons, h3]
      omega
/-- no row from here is longer than N -/
def Upto (folk : List Int) (d N : Nat) : Prop := ∀ (c : HS) ps R D, Hou folk d c.1 c.2 → Run d c.1 c.2 ps R D → ps.length ≤ N
theorem upto_of (f : Fk folk) {N : Nat} (h : d * (folk.length * (2 * 2 ^ ((folk.length - 1) / 2) + 1)) ≤ N) : Upto folk d N := fun c ps R D h0 hr => by
  have h1 := hr.len f h0
  have h2 : ((d * (folk.length * (2 * 2 ^ ((folk.length - 1) / 2) + 1)) : Nat) : Int) = (d : Int) * (folk.length * (2 * 2 ^ ((folk.length - 1) / 2) + 1)) := by simp [Int.natCast_mul, Int.natCast_pow]
  omega
theorem hgt_rec (f : Fk folk) {N : Nat} (u : Upto folk d N) {c : HS} (h0 : Hou folk d c.1 c.2) : hgt wt N c = mxN ((steps c.1 c.2).map fun p => hgt wt N (bhS c p) + wt p) := by
  show _ = hgt wt (N + 1) c
  obtain ⟨ps, R, D, h1, h2, h3⟩ := hgt_at (wt := wt) f N c h0
  obtain ⟨qs, R2, D2, g1, g2, g3⟩ := hgt_at (wt := wt) f (N + 1) c h0
  have a := hgt_ge (wt := wt) (n := N + 1) f h0 h1 (by omega)
  have b := hgt_ge (wt := wt) (n := N) f h0 g1 (u _ _ _ _ h0 g1)
  omega
/-- how long the longest row is -/
abbrev lamH (N : Nat) (c : HS) : Nat := hgt (fun _ => 1) N c
theorem sumU_one : ∀ ps : List (Int × Int), (ps.map fun _ => 1).sum = ps.length
  | [] => rfl
  | p :: ps => by rw [List.map_cons, List.sum_cons, sumU_one ps, List.length_cons]; omega
theorem lamH_lt (f : Fk folk) {N : Nat} (u : Upto folk d N) {c : HS} (h0 : Hou folk d c.1 c.2) {p : Int × Int} (hp : p ∈ steps c.1 c.2) : lamH N (bhS c p) < lamH N c := by
  have := mxN_ge (a := lamH N (bhS c p) + 1) (List.mem_map.mpr ⟨p, hp, rfl⟩ : _ ∈ (steps c.1 c.2).map fun p => hgt (fun _ => 1) N (bhS c p) + 1)
  have e := hgt_rec (wt := fun _ => 1) f u h0
  unfold lamH at this ⊢
  omega
theorem lamH_le (f : Fk folk) {N : Nat} (u : Upto folk d N) {c : HS} (h0 : Hou folk d c.1 c.2) : lamH N c ≤ N := by
  obtain ⟨ps, R, D, h1, h2, h3⟩ := hgt_at (wt := fun _ => 1) f N c h0
  rw [sumU_one] at h3
  show hgt (fun _ => 1) N c ≤ N
  omega
end
section
variable {α : Type} [DecidableEq α] {H : α → Nat} {kd : List (α × Nat)} {f : α → Dt} {x y : α}
/-- what is known, each with its worth -/
structure KnI (H : α → Nat) (kd : List (α × Nat)) : Prop where
  nd : (kd.map (·.1)).Nodup
  val : ∀ p ∈ kd, p.2 = H p.1
def knP (H : α → Nat) (kd : List (α × Nat)) (x : α) : List (α × Nat) := if x ∈ kd.map (·.1) then kd else kd ++ [(x, H x)]
theorem KnI.put (I : KnI H kd) : KnI H (knP H kd x) := by
  unfold knP
  split
  · exact I
  · rename_i h
    refine ⟨?_, fun p hp => ?_⟩
    · rw [List.map_append, List.map_singleton]
      refine List.nodup_append.mpr ⟨I.nd, by simp, fun u hu v hv e => h ?_⟩
      rw [List.mem_singleton] at hv
      have hv : v = x := hv
      rw [← hv, ← e]; exact hu
    · rcases List.mem_append.mp hp with hp | hp
      · exact I.val p hp
      · rw [List.mem_singleton.mp hp]
theorem KnI.look (I : KnI H kd) (h : x ∈ kd.map (·.1)) : kd.find? (fun p => decide (p.1 = x)) = some (x, H x) := by
  obtain ⟨⟨c, v⟩, h1, rfl⟩ := List.mem_map.mp h
  have := I.val _ h1
  simp only at this
  subst this
  exact look_mem I.nd h1
/-- each may go by two doors at the most -/
theorem steps_two {folk : List Int} {d : Nat} {R : List (List Int)} {D : List Int} (fk : Fk folk) (h : Hou folk d R D) : (steps R D).length ≤ 2 * folk.length := by
  have hs : ∀ p ∈ steps R D, p ∈ folk.flatMap fun w => [(w, ((ixR R w : Nat) : Int)), (w, ((ixR R w : Nat) : Int) + 1)] := fun p hp => by
    obtain ⟨k, hk, ep, l⟩ := steps_let fk h hp
    have hw := l.mem h hk
    refine List.mem_flatMap.mpr ⟨p.1, hw, ?_⟩
    have hx := (ixR_at fk h hw).2
    rw [ep]
    rcases l with ⟨c, _⟩ | ⟨_, c, _⟩
    · rw [← (hx k).mp c]; simp
    · rw [← (hx (k + 1)).mp c]; simp
  have h1 := len_sub' (steps_nd fk h) hs
  have h2 : ∀ l : List Int, (l.flatMap fun w => [(w, ((ixR R w : Nat) : Int)), (w, ((ixR R w : Nat) : Int) + 1)]).length = 2 * l.length := fun l => by
    induction l with
    | nil => rfl
    | cons w l ih => rw [List.flatMap_cons, List.length_append, ih]; simp only [List.length_cons, List.length_nil]; omega
  rw [h2] at h1
  exact h1
end
end Y
namespace Y
open PySem L2
end Y
namespace Y
open PySem L2 PyProof.Rows
theorem Room.in1 {k : Nat} {A : Around} (r : Room (k + 1) A) : Room k A.in1 := ⟨r.toRoom.in1, r.gd⟩
/-- len(e), e an object of class c whose own __len__ is fn -/
def mLenO (c : Str) (fn : Fn) (A : Am) : Ev → Ou Vl := fun r => match mMe c "__len__" fn A [] r with
  | .ok (.i n, _) r1 => if 0 ≤ n ∧ n < 2 ^ 63 then .ok (.i n, .c) r1 else .no
  | .ok _ _ => .no
  | .ex c fs r1 => .ex c fs r1
  | .no => .no
def mReprO (c : Str) (fn : Fn) (A : Am) : Ev → Ou Vl := fun r => match mMe c "__repr__" fn A [] r with
  | .ok (.s n, _) r1 => .ok (.s n, .c) r1
  | .ok _ _ => .no
  | .ex c fs r1 => .ex c fs r1
  | .no => .no
section
variable {X : Cx} {cl : Str → Addr} {W : WX}
theorem PX.back {K : PySem.W.Frag} {r r1 r2 : Ev} {σ : L2.St} {H H1 H2 : Hp} {M M1 M2 : Addr → Prop} {G G1 G2 : Nat → List Addr} {v w : V} {x y : Dt} {m n : Md} {F F1 : List Addr} (e : ER K r σ G M H) (p : PX K r1 σ H M G v x m H1 M1 G1 F) (q : PX K r2 σ H1 M1 G1 w y n H2 M2 G2 F1) : PX K r2 σ H M G w y n H2 M2 G2 F1 :=
  ⟨q.er, p.ev.trans e.hot q.ev, q.rp, q.nd, q.hot⟩
end
@[simp] theorem wE_lenO {c : Str} {fn : Fn} {A : Am} {r : Ev} {Q : Vl → Ev → Prop} : wE (mLenO c fn A) r Q = wE (mMe c "__len__" fn A []) r (fun y r1 => match y.1 with | .i n => (0 ≤ n ∧ n < 2 ^ 63) ∧ Q (.i n, .c) r1 | _ => False) := by
  unfold wE mLenO
  cases mMe c "__len__" fn A [] r with
  | no => rfl
  | ex _ _ _ => rfl
  | ok y r1 =>
    obtain ⟨y, m⟩ := y
    cases y with
    | i n =>
      simp only
      by_cases h : 0 ≤ n ∧ n < 2 ^ 63
      · rw [if_pos h]; exact propext ⟨fun q => ⟨h, q⟩, fun q => q.2⟩
      · rw [if_neg h]; exact propext ⟨fun q => q.elim, fun q => h q.1⟩
    | _ => rfl
@[simp] theorem wE_reprO {c : Str} {fn : Fn} {A : Am} {r : Ev} {Q : Vl → Ev → Prop} : wE (mReprO c fn A) r Q = wE (mMe c "__repr__" fn A []) r (fun y r1 => match y.1 with | .s n => Q (.s n, .c) r1 | _ => False) := by
  unfold wE mReprO
  cases mMe c "__repr__" fn A [] r with
  | no => rfl
  | ex _ _ _ => rfl
  | ok y r1 =>
    obtain ⟨y, m⟩ := y
    cases y <;> rfl
/-- str(..) of a number -/
def fStrI : List Dt → Option Vl
  | [.i n] => if n.natAbs.log2 < 1920 then some (.s (toString n), .c) else none
  | _ => none
@[simp] theorem wO_strI {n : Int} {Q : Dt → Md → Prop} : wO (fStrI [.i n]) Q = (n.natAbs.log2 < 1920 ∧ Q (.s (toString n)) .c) := by
  unfold wO fStrI
  by_cases h : n.natAbs.log2 < 1920
  · simp [h]
  · simp [h]
def ixTG (x : Dt) (m : Md) (k : Int) (r1 : Ev) : Ou Vl := match x, m with
  | .l xs, .t => match atI xs k with
    | some y => .ok (y, .c) r1
    | none => .no
  | .l xs, .c => match atI xs k with
    | some y => .ok (y, .c) r1
    | none => .no
  | _, _ => .no
def mIxT (i : Nat) (f : Ev → Ou Vl) : Ev → Ou Vl := fun r => match r[i]? with
  | some (some _) => match f r with
    | .ok (.i k, _) r1 => match r1[i]? with
      | some (some (x, m)) => ixTG x m k r1
      | _ => .no
    | .ok _ _ => .no
    | .ex c fs r1 => .ex c fs r1
    | .no => .no
  | _ => .no
@[simp] theorem wE_ixT {i : Nat} {f : Ev → Ou Vl} {r : Ev} {Q : Vl → Ev → Prop} : wE (mIxT i f) r Q = wG r[i]? fun _ _ => wE f r fun k r1 => match k.1 with
    | .i k => wG r1[i]? fun x m => match x, m with
      | .l xs, .t => wAt xs k fun y => Q (y, .c) r1
      | .l xs, .c => wAt xs k fun y => Q (y, .c) r1
      | _, _ => False
    | _ => False := by
  unfold wG wE
  simp only [mIxT]
  cases hr : r[i]? with
  | none => rfl
  | some oo =>
  cases oo with
  | none => rfl
  | some xm =>
    simp only
    cases hf : f r with
    | no => rfl
    | ex _ _ _ => rfl
    | ok kd r1 =>
      obtain ⟨kd, mk⟩ := kd
      simp only
      cases kd with
      | i k =>
        simp only
        cases hri : r1[i]? with
        | none => rfl
        | some oo =>
        cases oo with
        | none => rfl
        | some xm =>
          obtain ⟨x, m⟩ := xm
          have at_ : ∀ xs : List Dt, (match (match atI xs k with | some y => (Ou.ok (y, .c) r1 : Ou Vl) | none => .no) with | .ok x r' => Q x r' | _ => False) = wAt xs k fun y => Q (y, .c) r1 := fun xs => by
            unfold wAt
            cases atI xs k with
            | none => simp
            | some y => simp
          cases x with
          | l xs =>
            cases m with
            | a => rfl
            | t => exact at_ xs
            | c => exact at_ xs
          | _ => cases m <;> rfl
      | _ => rfl
def hard : Vl → Vl
  | (.l xs, .t) => if flatL xs = true then (.l xs, .a) else (.l xs, .t)
  | x => x
def sRetH (i : Nat) : Ev → So := fun r => match r[i]? with
  | some (some x) => .rt (hard x) (r.set i none)
  | _ => .no
@[simp] theorem wS_retH {i : Nat} {r : Ev} {Qn : Ev → Prop} {Qr : Vl → Ev → Prop} {Qb Qc : Ev → Prop} : wS (sRetH i) r Qn Qr Qb Qc = wG r[i]? fun x m => setK r i none (Qr (hard (x, m))) := by
  unfold wS wG setK
  simp only [sRetH]
  cases r[i]? with
  | none => rfl
  | some o => cases o <;> rfl
def sFinX (g k : Ev → So) : Ev → So := fun r => match g r with
  | .nx r1 => match k r1 with
    | .nx r2 => .nx r2
    | _ => .no
  | .ex c fs r1 => match k r1 with
    | .nx r2 => .ex c fs r2
    | _ => .no
  | _ => .no
@[simp] theorem wS_finX {g k : Ev → So} {r : Ev} {Qn : Ev → Prop} {Qr : Vl → Ev → Prop} {Qb Qc : Ev → Prop} : wS (sFinX g k) r Qn Qr Qb Qc = wS g r (fun r1 => wS k r1 Qn (fun _ _ => False) (fun _ => False) (fun _ => False)) (fun _ _ => False) (fun _ => False) (fun _ => False) := by
  unfold wS sFinX
  cases g r with
  | nx r1 => simp only; cases k r1 <;> rfl
  | ex c fs r1 => simp only; cases k r1 <;> rfl
  | _ => rfl
end Y
namespace Y
open PySem L2
inductive Deed where
  | go (w z : Int) | row (ps : List (Int × Int)) | come (w : Int) | leave (w : Int) | oil (z : Int)
def comeS (a : HS) (w : Int) : HS := (a.1.set 0 (isrt (a.1.getD 0 [] ++ [w])), a.2)
def leaveS (a : HS) (w : Int) : HS := (a.1.map fun r => r.filter fun v => decide (v ≠ w), a.2)
def oilS (a : HS) (z : Int) : HS := (a.1, a.2.set (z - 1).toNat 0)
/-- goings one behind the other, as far as each is let -/
def rowS : HS → List (Int × Int) → Option HS
  | a, [] => some a
  | a, p :: ps => if p ∈ steps a.1 a.2 then rowS (bhS a p) ps else none
def endsS (a : HS) (w : Int) : Prop := w ∈ a.1.getD 0 [] ∨ w ∈ a.1.getD a.2.length []
instance (a : HS) (w : Int) : Decidable (endsS a w) := inferInstanceAs (Decidable (_ ∨ _))
/-- the house behind a deed that can be done, and its goings -/
def Deed.run (a : HS) : Deed → Option (HS × List (Int × Int))
  | .go w z => (rowS a [(w, z)]).map fun b => (b, [(w, z)])
  | .row ps => (rowS a ps).map fun b => (b, ps)
  | .come w => if w ∈ a.1.flatten then none else some (comeS a w, [])
  | .leave w => if endsS a w then some (leaveS a w, []) else none
  | .oil z => if 1 ≤ z ∧ z ≤ a.2.length then some (oilS a z, []) else none
/-- numbers that can be handed -/
def smI (z : Int) : Prop := -1000000 ≤ z ∧ z < 2 ^ 62
def Deed.Fit (many : Nat) : Deed → Prop
  | .go w z => smI w ∧ smI z
  | .row ps => ps.length ≤ 1000 ∧ ∀ p ∈ ps, smI p.1 ∧ smI p.2
  | .come w => (1 ≤ w ∧ w < 2 ^ 62) ∧ many < 14
  | .leave w => smI w
  | .oil z => smI z
/-- a house of up to n folk -/
def HN (n d : Nat) (a : HS) : Prop := ∃ folk, Fk folk ∧ Hou folk d a.1 a.2 ∧ folk.length ≤ n
def manyS (a : HS) : Nat := a.1.flatten.length
section
variable {n d : Nat} {a : HS}
theorem HN.len (h : HN n d a) : manyS a ≤ n := by
  obtain ⟨folk, f, h0, hl⟩ := h
  unfold manyS
  rw [h0.perm.length_eq]
  exact hl
theorem HN.mono {m : Nat} (h : HN n d a) (hm : n ≤ m) : HN m d a := by
  obtain ⟨folk, f, h0, hl⟩ := h
  exact ⟨folk, f, h0, by omega⟩
theorem HN.come (h : HN n d a) {w : Int} (hw : ¬ w ∈ a.1.flatten) (h1 : 1 ≤ w ∧ w < 2 ^ 62) (hn : n ≤ 59) : HN (manyS a + 1) d (comeS a w) := by
  obtain ⟨folk, f, h0, hl⟩ := h
  obtain ⟨R, D⟩ := a
  simp only at h0 hw
  have hlr := h0.lr
  have hm : manyS (R, D) = folk.length := h0.perm.length_eq
  have e : R[0]? = some (R.getD 0 []) := by rw [List.getD_eq_getElem?_getD, List.getElem?_eq_getElem (by omega)]; rfl
  have hlt : 0 < R.length := by omega
  obtain ⟨r, T, rfl⟩ : ∃ r T, R = r :: T := by
    cases R with
    | nil => simp at hlt
    | cons r T => exact ⟨r, T, rfl⟩
  have e1 : comeS (r :: T, D) w = (isrt (r ++ [w]) :: T, D) := rfl
  rw [e1]
  have p1 : (isrt (r ++ [w]) :: T).flatten.Perm (w :: (r :: T).flatten) := by
    rw [List.flatten_cons, List.flatten_cons]
    refine ((isrt_perm _).append_right _).trans ?_
    rw [List.append_assoc, List.singleton_append]
    exact List.perm_middle
  have p2 := p1.trans (h0.perm.cons w)
  have nd1 : (w :: folk).Nodup := List.nodup_cons.mpr ⟨fun z => hw (h0.perm.mem_iff.mpr z), f.nd⟩
  have nd2 := p2.nodup_iff.mpr nd1
  refine ⟨isrt (isrt (r ++ [w]) :: T).flatten, ⟨?_, fun v hv => ?_, ?_⟩, ⟨hlr, h0.ld, (isrt_perm _).symm, fun x hx => ?_, h0.bd⟩, ?_⟩
  · have := (isrt_le (isrt (r ++ [w]) :: T).flatten).and ((isrt_perm _).nodup_iff.mpr nd2)
    exact this.imp fun h => by omega
  · rcases List.mem_cons.mp (p2.mem_iff.mp (isrt_mem.mp hv)) with rfl | hv
    · exact h1
    · exact f.bd v hv
  · rw [isrt_len, p2.length_eq, List.length_cons]
    omega
  · rcases List.mem_cons.mp hx with rfl | hx
    · have sb : (isrt (r ++ [w])).Sublist (isrt (r ++ [w]) :: T).flatten := List.sublist_flatten_of_mem List.mem_cons_self
      have := (isrt_le (r ++ [w])).and (nd2.sublist sb)
      exact this.imp fun h => by omega
    · exact h0.srt x (List.mem_cons_of_mem _ hx)
  · rw [isrt_len, p2.length_eq, List.length_cons, hm]
    exact Nat.le_refl _
theorem filter_flat (p : Int → Bool) : ∀ R : List (List Int), (R.map fun r => r.filter p).flatten = R.flatten.filter p
  | [] => rfl
  | r :: R => by rw [List.map_cons, List.flatten_cons, List.flatten_cons, List.filter_append, filter_flat p R]
theorem HN.leave (h : HN n d a) (w : Int) : HN n d (leaveS a w) := by
  obtain ⟨folk, f, h0, hl⟩ := h
  refine ⟨folk.filter fun v => decide (v ≠ w), ⟨f.srt.filter _, fun v hv => f.bd v (List.mem_filter.mp hv).1, Nat.le_trans (List.length_filter_le _ _) f.len⟩, ⟨by simp [leaveS, h0.lr], h0.ld, ?_, fun x hx => ?_, h0.bd⟩, Nat.le_trans (List.length_filter_le _ _) hl⟩
  · show ((a.1.map fun r => r.filter fun v => decide (v ≠ w)).flatten).Perm _
    rw [filter_flat]
    exact h0.perm.filter _
  · obtain ⟨r, hr, rfl⟩ := List.mem_map.mp hx
    exact (h0.srt r hr).filter _
theorem HN.oil (h : HN n d a) (z : Int) : HN n d (oilS a z) := by
  obtain ⟨folk, f, h0, hl⟩ := h
  refine ⟨folk, f, ⟨h0.lr, by simp [oilS, h0.ld], h0.perm, h0.srt, fun m hm => ?_⟩, hl⟩
  rcases List.mem_or_eq_of_mem_set hm with hm | rfl
  · exact h0.bd m hm
  · exact ⟨by omega, by decide⟩
theorem HN.row : ∀ {ps : List (Int × Int)} {a b : HS}, HN n d a → rowS a ps = some b → HN n d b
  | [], a, b, h, e => by
    cases e
    exact h
  | p :: ps, a, b, h, e => by
    unfold rowS at e
    split at e
    · rename_i hp
      obtain ⟨folk, f, h0, hl⟩ := h
      exact HN.row ⟨folk, f, hou_bh f h0 hp, hl⟩ e
    · cases e
theorem HN.run (h : HN 14 d a) {x : Deed} (hf : x.Fit (manyS a)) {b : HS} {ps : List (Int × Int)} (e : x.run a = some (b, ps)) : HN 14 d b := by
  cases x with
  | go w z =>
    simp only [Deed.run, Option.map_eq_some_iff] at e
    obtain ⟨c, hc, e⟩ := e
    cases e
    exact HN.row h hc
  | row qs =>
    simp only [Deed.run, Option.map_eq_some_iff] at e
    obtain ⟨c, hc, e⟩ := e
    cases e
    exact HN.row h hc
  | come w =>
    simp only [Deed.run] at e
    split at e
    · cases e
    · rename_i hw
      cases e
      exact (h.come hw hf.1 (by omega)).mono (by have := hf.2; omega)
  | leave w =>
    simp only [Deed.run] at e
    split at e
    · cases e
      exact h.leave w
    · cases e
  | oil z =>
    simp only [Deed.run] at e
    split at e
    · cases e
      exact h.oil z
    · cases e
end
/-- a statement, then the rest: what holds between -/
theorem wS_mid {s u : Ev → So} {r : Ev} {Qn : Ev → Prop} {Qr : Vl → Ev → Prop} {Qb Qc : Ev → Prop} (P : Ev → Prop) (h : wS s r P Qr Qb Qc) (q : ∀ r1, P r1 → wS u r1 Qn Qr Qb Qc) : wS (sSeq s u) r Qn Qr Qb Qc := by
  unfold wS at h ⊢
  simp only [sSeq]
  cases hs : s r with
  | nx r1 => rw [hs] at h; exact q r1 h
  | rt x r1 => rw [hs] at h; exact h
  | bk r1 => rw [hs] at h; exact h
  | ct r1 => rw [hs] at h; exact h
  | ex _ _ _ => rw [hs] at h; exact h
  | no => rw [hs] at h; exact h
end Y
namespace Y
open PySem L2
def mIxL (f : Ev → Ou Vl) (k : Nat) : Ev → Ou Vl := fun r => match f r with
  | .ok (.l xs, .a) r1 => match xs[k]? with
    | some y => .ok (y, .a) r1
    | none => .no
  | .ok _ _ => .no
  | .ex c fs r1 => .ex c fs r1
  | .no => .no
@[simp] theorem wE_IxL {f : Ev → Ou Vl} {r : Ev} {k : Nat} {Q : Vl → Ev → Prop} : wE (mIxL f k) r Q = wE f r fun x r1 => match x with
    | (.l xs, .a) => match xs[k]? with
      | some y => Q (y, .a) r1
      | none => False
    | _ => False := by
  unfold wE
  simp only [mIxL]
  cases f r with
  | ok x r1 =>
    obtain ⟨x, m⟩ := x
    cases x with
    | l xs =>
      cases m with
      | a =>
        simp only
        cases xs[k]? <;> rfl
      | _ => rfl
    | _ => rfl
  | ex _ _ _ => rfl
  | no => rfl
end Y
namespace PySem.W
open PySem PySem.Spec PyProof.Rows
end PySem.W
namespace Y
open PySem PySem.Spec PyProof.Rows L2
/-- what a class with its own == must say -/
structure EqC (K : PySem.W.Frag) (C : Addr) : Prop where
  cl : Cls K C
  ha : PySem.W.findIn K (.ref C) "__class__" = some (some (.builtin "object.__class__"))
  hn : PySem.W.specialIn K (.builtin "object.__class__") "__get__" = some (some (.builtin "getset_descriptor.__get__"))
  ht : PySem.W.takesIn K (.builtin "object.__class__") = some true
  hm : PySem.W.mroIn K C (.type "object") = some true
  ty : PySem.W.typeIn K (.ref C) = some (.type "type")
  ne : PySem.W.findIn K (.ref C) "__ne__" = some (some (.builtin "object.__ne__"))
theorem EqC.cls {K : PySem.W.Frag} {C : Addr} (T : EqC K C) : (PySem.W.clsIn K C).isSome = true := by
  obtain ⟨cd, hc, _⟩ := PySem.W.any_some T.cl.hd
  rw [hc]; rfl
def isIt (c : Str) : Dt → Bool
  | .o c' _ _ => decide (c' = c)
  | _ => false
/-- what an own object may be compared with -/
def okEq (c : Str) (x : Dt) : Bool := isIt c x || isP x
section
variable {K : PySem.W.Frag} {M : Addr → Prop} {H : Hp} {C : Addr} {c : Str}
def fIsO (c : Str) : List Dt → Option Vl
  | [y] => if okEq c y then some (.b (isIt c y), .c) else none
  | _ => none
end
@[simp] theorem wO_isO {c : Str} {x : Dt} {Q : Dt → Md → Prop} : wO (fIsO c [x]) Q = (okEq c x = true ∧ Q (.b (isIt c x)) .c) := by
  by_cases h : okEq c x = true
  · simp [fIsO, h, wO]
  · simp [fIsO, h, wO]
end Y
namespace PySem
end PySem
namespace Y
open PySem PySem.Spec PySem.YG PyProof.Rows L2
def mMkX1 (c f : Str) (m : Ev → Ou Vl) : Ev → Ou Vl := fun r => match m r with
  | .ok (x, _) r' => if x.flat then .ok (.x c [f] [x], .c) r' else .no
  | .ex d fs r' => .ex d fs r'
  | .no => .no
def mMkX0 (c : Str) : Ev → Ou Vl := fun r => .ok (.x c [] [], .c) r
@[simp] theorem wE_mkX1 {c f : Str} {m : Ev → Ou Vl} {r : Ev} {Q : Vl → Ev → Prop} : wE (mMkX1 c f m) r Q = wE m r fun x r1 => x.1.flat = true ∧ Q (.x c [f] [x.1], .c) r1 := by
  unfold wE
  simp only [mMkX1]
  cases m r with
  | no => rfl
  | ex d fs r' => rfl
  | ok xm r' =>
    obtain ⟨x, mm⟩ := xm
    by_cases h : x.flat = true <;> simp [h]
@[simp] theorem wE_mkX0 {c : Str} {r : Ev} {Q : Vl → Ev → Prop} : wE (mMkX0 c) r Q = Q (.x c [] [], .c) r := id rfl
end Y
namespace Y
open PySem PySem.Spec PySem.YG PyProof.Rows L2
def isNx : Dt → Bool
  | .n => true
  | _ => false
def okNx (cs : List Str) : Dt → Bool
  | .n => true
  | .x c _ _ => cs.contains c
  | _ => false
def fInX (cs : List Str) : List Dt → Option Vl
  | [.n, .l ys] => if ys.all (okNx cs) then some (.b (ys.any isNx), .c) else none
  | _ => none
section
variable {K : PySem.W.Frag} {M : Addr → Prop} {H : Hp} {cl : Str → Addr} {cs : List Str}
@[simp] theorem wO_inX {ys : List Dt} {Q : Dt → Md → Prop} : wO (fInX cs [.n, .l ys]) Q = (ys.all (okNx cs) = true ∧ Q (.b (ys.any isNx)) .c) := by
  by_cases h : ys.all (okNx cs) = true
  · simp [fInX, h, wO]
  · simp [fInX, h, wO]
end
end Y
namespace Y
open PySem L2 PyProof.Rows
section
variable {K : PySem.W.Frag} {cl : Str → Addr} {W : WX} {M M' : Addr → Prop} {H H' : Hp} {G G' : Nat → List Addr} {r r' : Ev} {σ : L2.St} {a : Addr} {us : List V} {od : Obj}
abbrev lkL (H : Hp) (a : Addr) (od : Obj) (us : List V) : Hp := upd H a (.frz od (.lst us))
theorem rd_lkL (ha : H a = some (.lst us)) {b : Addr} {u : HO} (h : Rd H b u) : Rd (lkL H a od us) b u := by
  by_cases q : b = a
  · subst q
    rcases h with h | ⟨o', h⟩
    · rw [ha] at h; cases h; exact .inr ⟨od, upd_same⟩
    · rw [ha] at h; cases h
  · rcases h with h | ⟨o', h⟩
    · exact .inl ((upd_ne q).trans h)
    · exact .inr ⟨o', (upd_ne q).trans h⟩
theorem lkL_of (ha : H a = some (.lst us)) {b : Addr} {u : HO} (h : H b = some u) (hu : ∀ ws, u ≠ .lst ws) : lkL H a od us b = some u := by
  have q : b ≠ a := fun q => by
    rw [q, ha] at h
    cases h
    exact hu _ rfl
  exact (upd_ne q).trans h
mutual
theorem Co.lkL (ha : H a = some (.lst us)) (hM : M a) (hs : ∀ b, M' b → M b) : ∀ {v : V} {x : Dt}, Co K M H v x → Co K M' (lkL H a od us) v x
  | _, _, .n => .n
  | _, _, .f h => .f h
  | _, _, .b x => .b x
  | _, _, .i x => .i x
  | _, _, .s x => .s x
  | _, _, .t h q => .t (h.elim (fun h => .inl (rd_lkL ha h)) .inr) (CoL.lkL ha hM hs q)
  | _, _, .l h hn q => .l ((upd_ne fun e => hn (by rw [e]; exact hM)).trans h) (fun z => hn (hs _ z)) (CoL.lkL ha hM hs q)
  | _, _, .z h q => .z (h.elim (fun ⟨o, h⟩ => .inl ⟨o, lkL_of ha h fun _ z => by cases z⟩) .inr) (CoL.lkL ha hM hs q)
  | _, _, .m h hn q => .m (rd_lkL ha h) (fun z => hn (hs _ z)) (CoL.lkL ha hM hs q)
  | _, _, .o h hn c q => .o (lkL_of ha h fun _ z => by cases z) (fun z => hn (hs _ z)) c (CoL.lkL ha hM hs q)
  | _, _, .k h hn c1 e1 e2 q => .k (rd_lkL ha h) (fun z => hn (hs _ z)) (CoL.lkL ha hM hs c1) e1 e2 (CoL.lkL ha hM hs q)
  | _, _, .x0 h c => .x0 (lkL_of ha h fun _ => exk_lst) c
  | _, _, .x1 h c d q => .x1 (lkL_of ha h fun _ => exk_lst) c (lkL_of ha d fun _ z => by cases z) (Co.lkL ha hM hs q)
theorem CoL.lkL (ha : H a = some (.lst us)) (hM : M a) (hs : ∀ b, M' b → M b) : ∀ {vs : List V} {xs : List Dt}, CoL K M H vs xs → CoL K M' (lkL H a od us) vs xs
  | _, _, .nil => .nil
  | _, _, .cons h q => .cons (Co.lkL ha hM hs h) (CoL.lkL ha hM hs q)
end
theorem ER.lkL (e : ER K r σ G M H) (ha : H a = some (.lst us)) (nG : ∀ i, a ∉ G i) (hM : M a) : ER K r σ G (fun b => M b ∧ b ≠ a) (lkL H a od us) := by
  have ne : ∀ b, b ≠ a → Y.lkL H a od us b = H b := fun b q => upd_ne q
  refine ⟨e.len, fun i x m h => ?_, e.emp, e.nd, e.dj, fun i b hb => ⟨e.sub i b hb, fun q => nG i (by rw [← q]; exact hb)⟩, fun b hb => ?_, e.tab.cold fun b o h hn => ?_⟩
  · obtain ⟨v, h1, h2⟩ := e.at_ i x m h
    refine ⟨v, h1, ?_⟩
    have st : ∀ b ∈ G i, Y.lkL H a od us b = H b := fun b hb => ne b fun q => nG i (by rw [← q]; exact hb)
    cases m with
    | c => exact ⟨h2.1.lkL ha hM fun _ z => z.1, h2.2⟩
    | t =>
      obtain ⟨b, vs, xs, rfl, rfl, eG, q, c⟩ := h2
      exact ⟨b, vs, xs, rfl, rfl, eG, (st b (by rw [eG]; simp)).trans q, c.lkL ha hM fun _ z => z.1⟩
    | a => exact Ho.stay (fun b xs z => rd_lkL ha z) (fun b o u z => lkL_of ha z fun _ z => by cases z) h2 st
  · obtain ⟨o, h1, h2⟩ := e.hot b hb.1
    exact ⟨o, (ne b hb.2).trans h1, h2⟩
  · exact (ne b fun q => hn (by rw [q, ha] at h; cases h; exact True.intro)).trans h
/-- a new list, given up for good -/
def mFz (g : Ev → Ou Vl) : Ev → Ou Vl := fun r => match g r with
  | .ok (.l xs, .t) r1 => .ok (.z xs, .c) r1
  | .ex c fs r1 => .ex c fs r1
  | _ => .no
def tLk (td : TE) : TE := fun σ H Q => td σ H fun v H1 => ∃ (a : Addr) (us : List V), v = .ref a ∧ H1 a = some (.lst us) ∧ ∀ od, Q v (upd H1 a (.frz od (.lst us)))
end
section
variable {X : Cx} {cl : Str → Addr} {W : WX} {e : Expr} {g : Ev → Ou Vl} {td : TE}
theorem pe_lk (he : PE X e td) : PE X e (tLk td) := by
  refine ⟨fun pins s σ H Q I h => ?_⟩
  refine thn (he.run pins s σ H _ I h) fun u s1 ⟨x, H1, I1, rx, d, us, ex, hd, q⟩ => ?_
  subst ex
  obtain ⟨od, I2⟩ := I1.lock hd True.intro
  exact ⟨_, _, I2, rx, q od⟩
theorem je_fz (he : JE X cl W e g) : JE X cl W e (mFz g) := fun tk => (pe_lk (he tk)).yimp fun σ H Q q => by
  obtain ⟨r, M, G, er, h⟩ := q
  unfold mFz at h
  refine ⟨r, M, G, er, ?_⟩
  revert h
  cases g r with
  | ok xm r1 =>
    obtain ⟨x, m⟩ := xm
    intro h
    cases x with
    | l xs =>
      cases m with
      | t =>
        intro v H' M' G' F p
        obtain ⟨a, vs, ys, rfl, ey, eF, q1, c⟩ := p.rp
        cases ey
        subst eF
        obtain ⟨hMa, nG⟩ := p.hot a (by simp)
        refine ⟨a, vs, rfl, q1, fun od => h _ _ (fun b => M' b ∧ b ≠ a) G' [] ⟨p.er.lkL q1 nG hMa, ?_, ⟨.z (.inl ⟨od, upd_same⟩) (c.lkL q1 hMa fun _ z => z.1), rfl⟩, List.nodup_nil, fun _ z => nomatch z⟩⟩
        refine ⟨fun b o hb hq {nt} => ?_, fun b hb => ?_, fun b z => p.ev.grow b z.1, fun b hb hq => ⟨p.ev.keep b hb hq, fun z => ?_⟩, fun i b z => p.ev.env i b z, fun _ z => nomatch z⟩
        · refine (upd_ne fun z => ?_).trans (p.ev.pres' b o hb hq (nt := nt))
          subst z
          rcases p.ev.res b (by simp) with ⟨j, hj⟩ | hn
          · exact hq j hj
          · rw [hn] at hb; cases hb
        · by_cases z : b = a
          · rw [z, upd_same] at hb; cases hb
          · rw [upd_ne z] at hb; exact p.ev.dom b hb
        · subst z
          rcases p.ev.res b (by simp) with ⟨j, hj⟩ | hn
          · exact hq j hj
          · obtain ⟨o, ho, _⟩ := er.hot b hb
            rw [hn] at ho; cases ho
      | _ => exact h.elim
    | _ => exact h.elim
  | ex c fs r1 => exact fun h => h
  | no => exact fun h => h.elim
@[simp] theorem wE_Fz {r : Ev} {Q : Vl → Ev → Prop} : wE (mFz g) r Q = wE g r fun x r1 => match x with
    | (.l xs, .t) => Q (.z xs, .c) r1
    | _ => False := by
  unfold wE mFz
  cases g r with
  | ok xm r1 =>
    obtain ⟨x, m⟩ := xm
    cases x <;> cases m <;> rfl
  | _ => rfl
end
section
variable {X : Cx} {K : PySem.W.Frag}
def fCatZ : List Dt → Option Vl
  | [.z xs, .l ys] => if xs.length + ys.length ≤ LIM then some (.l (xs ++ ys), .t) else none
  | [.z xs, .z ys] => if xs.length + ys.length ≤ LIM then some (.l (xs ++ ys), .t) else none
  | _ => none
@[simp] theorem wO_catZ {xs ys : List Dt} {Q : Dt → Md → Prop} : wO (fCatZ [.z xs, .l ys]) Q = (xs.length + ys.length ≤ LIM ∧ Q (.l (xs ++ ys)) .t) := by
  simp only [fCatZ]
  by_cases h : xs.length + ys.length ≤ LIM <;> simp [h]
@[simp] theorem wO_catZZ {xs ys : List Dt} {Q : Dt → Md → Prop} : wO (fCatZ [.z xs, .z ys]) Q = (xs.length + ys.length ≤ LIM ∧ Q (.l (xs ++ ys)) .t) := by
  simp only [fCatZ]
  by_cases h : xs.length + ys.length ≤ LIM <;> simp [h]
end
end Y
namespace Y
open PySem L2 PyProof.Rows
open Classical in
noncomputable def mLendK (i : Nat) (f : Ev → Ou Vl) : Ev → Ou Vl := fun r => match r[i]? with
  | some (some (.k ks vs, .a)) => match f (r.set i (some (.k ks vs, .c))) with
    | .ok xm r' => if zfl xm = true ∧ okA r = true ∧ r' = r.set i (some (.k ks vs, .c)) then .ok xm r else .ok xm r'
    | .ex c fs r' => .ex c fs r'
    | .no => .no
  | _ => f r
section
variable {X : Cx} {cl : Str → Addr} {W : WX} {K : PySem.W.Frag} {σ : L2.St} {H : Hp}
theorem tI_lendK {i : Nat} {f : Ev → Ou Vl} {Q : VK} (h : tI K cl W (mLendK i f) σ H Q) : tI K cl W f σ H Q := by
  obtain ⟨r, M, G, e, q⟩ := h
  by_cases hr : ∃ ks vs, r[i]? = some (some (.k ks vs, .a))
  · obtain ⟨ks, vs, hr⟩ := hr
    simp only [mLendK, hr] at q
    obtain ⟨v, hv, rp⟩ := e.at_ i _ _ hr
    have rp : Ho K H v (.k ks vs) (G i) := rp
    have e1 := e.give hr
    have v2 : Evo H M G H (fun b => M b ∧ b ∉ G i) (fun j => if j = i then [] else G j) [] := ⟨fun _ _ h _ => h, fun _ h => h, fun b z => .inl z.1, fun b h hb => ⟨h, hb i⟩, fun j b hb => .inl ⟨j, by
      by_cases q : j = i
      · simp [q] at hb
      · simpa [q] using hb⟩, fun _ h => nomatch h⟩
    have nG : ∀ a ∈ G i, ∀ j, a ∉ (fun j => if j = i then [] else G j) j := fun a ha j hb => by
      by_cases c : j = i
      · simp [c] at hb
      · simp only [if_neg c] at hb
        exact e.dj j i c a hb ha
    refine ⟨r.set i (some (.k ks vs, .c)), _, _, e1, ?_⟩
    cases hf : f (r.set i (some (.k ks vs, .c))) with
    | no => rw [hf] at q; exact q
    | ex c fs r' =>
      rw [hf] at q
      exact fun d H' M' G' p => q d H' M' G' ⟨p.er, v2.trans e.hot p.ev, p.xd⟩
    | ok xm r' =>
      obtain ⟨x, m⟩ := xm
      rw [hf] at q
      simp only at q
      intro w H' M' G' F p
      by_cases hz : zfl (x, m) = true ∧ okA r = true ∧ r' = r.set i (some (.k ks vs, .c))
      · rw [if_pos hz] at q
        obtain ⟨hz1, hz2, rfl⟩ := hz
        have li : i < r.length := (List.getElem?_eq_some_iff.mp hr).1
        have st : ∀ b ∈ G i, H' b = H b := fun b hb => by
          obtain ⟨o, ho, _⟩ := rp.lists b hb
          rw [ho]
          exact p.ev.pres b o ho (nG b hb)
        have fm := e1.fm p.ev
        have rp' : Ho K H' v (.k ks vs) (G i) := Ho.stay (fun b xs z => fm.rd z (e1.hot.nrd z)) (fun b o u z => fm.keep b _ z (e1.hot.nfz z)) rp st
        have nG' : ∀ a ∈ G i, ∀ j, a ∉ G' j := fun a ha j hb => by
          rcases p.ev.env j a hb with ⟨l, z⟩ | z
          · exact nG a ha l z
          · obtain ⟨o, ho, _⟩ := rp.lists a ha
            rw [ho] at z; cases z
        have nF : ∀ a ∈ G i, a ∉ F := fun a ha hb => by
          rcases p.ev.res a hb with ⟨l, z⟩ | z
          · exact nG a ha l z
          · obtain ⟨o, ho, _⟩ := rp.lists a ha
            rw [ho] at z; cases z
        have ev2 : Evo H M G H' (fun b => M' b ∨ b ∈ G i) (fun j => if j = i then G i else G' j) F := by
          refine ⟨fun b o hb hn {nt} => ?_, p.ev.dom, fun b z => ?_, fun b hb hn => ?_, fun j b hb => ?_, fun b hb => ?_⟩
          · exact p.ev.pres b o hb fun j hj => by
              by_cases c : j = i
              · simp [c] at hj
              · simp only [if_neg c] at hj
                exact hn j hj
          · rcases z with z | z
            · rcases p.ev.grow b z with z | z
              · exact .inl z.1
              · exact .inr z
            · exact .inl (e.sub i b z)
          · exact .inl (p.ev.keep b ⟨hb, hn i⟩ fun j hj => by
              by_cases c : j = i
              · simp [c] at hj
              · simp only [if_neg c] at hj
                exact hn j hj)
          · by_cases c : j = i
            · rw [if_pos c] at hb
              exact .inl ⟨i, hb⟩
            · rw [if_neg c] at hb
              rcases p.ev.env j b hb with ⟨l, z⟩ | z
              · by_cases c2 : l = i
                · simp [c2] at z
                · simp only [if_neg c2] at z
                  exact .inl ⟨l, z⟩
              · exact .inr z
          · rcases p.ev.res b hb with ⟨l, z⟩ | z
            · by_cases c2 : l = i
              · simp [c2] at z
              · simp only [if_neg c2] at z
                exact .inl ⟨l, z⟩
            · exact .inr z
        have fm2 := e.fm ev2
        refine q w H' (fun b => M' b ∨ b ∈ G i) (fun j => if j = i then G i else G' j) F ⟨⟨e.len, fun j y n hj => ?_, fun j hj => ?_, fun j => ?_, fun j l hne b hb => ?_, fun j b hb => ?_, fun b z => ?_, p.er.tab⟩, ev2, p.rp.flatM hz1, p.nd, fun b hb => ⟨.inl (p.hot b hb).1, fun j hj => ?_⟩⟩
        · by_cases c : j = i
          · subst c
            rw [hr] at hj
            cases hj
            refine ⟨v, hv, ?_⟩
            rw [if_pos rfl]
            exact rp'
          · have hj2 : (r.set i (some (.k ks vs, .c)))[j]? = some (some (y, n)) := by rw [List.getElem?_set_ne (Ne.symm c)]; exact hj
            obtain ⟨u, g1, g2⟩ := p.er.at_ j y n hj2
            refine ⟨u, g1, ?_⟩
            rw [if_neg c]
            cases n with
            | c =>
              obtain ⟨u', g1', g2'⟩ := e.at_ j y .c hj
              rw [g1] at g1'; cases g1'
              exact ⟨g2'.1.fm fm2, g2.2⟩
            | t => exact g2.flatM (okA_at hz2 j y hj)
            | a => exact g2
        · by_cases c : j = i
          · subst c
            exact absurd hr (hj _ .a)
          · rw [if_neg c]
            exact p.er.emp j fun y n z => hj y n (by rw [List.getElem?_set_ne (Ne.symm c)] at z; exact z)
        · by_cases c : j = i
          · simpa [c] using e.nd i
          · simpa [c] using p.er.nd j
        · by_cases c : j = i
          · subst c
            rw [if_pos rfl] at hb
            rw [if_neg (Ne.symm hne)]
            exact nG' b hb l
          · rw [if_neg c] at hb
            by_cases c2 : l = i
            · rw [if_pos c2]
              exact fun z => nG' b z j hb
            · rw [if_neg c2]
              exact p.er.dj j l hne b hb
        · by_cases c : j = i
          · rw [if_pos c] at hb
            exact .inr hb
          · rw [if_neg c] at hb
            exact .inl (p.er.sub j b hb)
        · rcases z with z | z
          · exact p.er.hot b z
          · rw [st b z]; exact rp.lists b z
        · by_cases c : j = i
          · rw [if_pos c] at hj
            exact nF b hj hb
          · rw [if_neg c] at hj
            exact (p.hot b hb).2 j hj
      · rw [if_neg hz] at q
        exact q w H' M' G' F ⟨p.er, v2.trans e.hot p.ev, p.rp, p.nd, p.hot⟩
  · refine ⟨r, M, G, e, ?_⟩
    have : mLendK i f r = f r := by
      unfold mLendK
      split
      · rename_i ks vs h
        exact absurd ⟨ks, vs, h⟩ hr
      · rfl
    rw [this] at q
    exact q
end
section
variable {K : PySem.W.Frag} {cl : Str → Addr} {W : WX} {M M' : Addr → Prop} {H H' : Hp} {G G' : Nat → List Addr} {r r' : Ev} {σ : L2.St} {a : Addr} {es : List (NestedKey × Addr × V)} {od : Obj}
theorem rd_ul (ha : H a = some (.frz od (ktO a es))) {b : Addr} {u : HO} (h : Rd H b u) (hu : ∀ o w, u ≠ .frz o w) : Rd (upd H a (ktO a es)) b u := by
  by_cases q : b = a
  · subst q
    rcases h with h | ⟨o', h⟩
    · rw [ha] at h; cases h; exact absurd rfl (hu _ _)
    · rw [ha] at h; cases h; exact .inl upd_same
  · rcases h with h | ⟨o', h⟩
    · exact .inl ((upd_ne q).trans h)
    · exact .inr ⟨o', (upd_ne q).trans h⟩
theorem ul_of (ha : H a = some (.frz od (ktO a es))) {b : Addr} {u : HO} (h : H b = some u) (hu : ∀ o es, u ≠ .frz o (ktO a es)) : upd H a (ktO a es) b = some u := by
  have q : b ≠ a := fun q => by
    rw [q, ha] at h
    cases h
    exact hu _ _ rfl
  exact (upd_ne q).trans h
theorem kt_ne_l {us : List V} : ktO a es ≠ .lst us := fun z => by unfold ktO at z; cases z
theorem SqF.ul (ha : H a = some (.frz od (ktO a es))) {b : Addr} {us : List V} (h : SqF K H b us) : SqF K (upd H a (ktO a es)) b us :=
  h.elim (fun ⟨o, h⟩ => .inl ⟨o, ul_of ha h fun o es z => by injection z with _ z; exact kt_ne_l z.symm⟩) .inr
theorem exk_nz {b C : Addr} {d : Option Addr} (o : Obj) (w : HO) : exk b C d ≠ .frz o w := fun q => by unfold exk at q; cases q
mutual
theorem Co.ul (ha : H a = some (.frz od (ktO a es))) : ∀ {v : V} {x : Dt}, Co K M H v x → Co K M (upd H a (ktO a es)) v x
  | _, _, .n => .n
  | _, _, .f h => .f h
  | _, _, .b x => .b x
  | _, _, .i x => .i x
  | _, _, .s x => .s x
  | _, _, .t h q => .t (h.elim (fun h => .inl (rd_ul ha h fun _ _ z => by cases z)) .inr) (CoL.ul ha q)
  | _, _, .l h hn q => .l (ul_of ha h fun _ _ z => by cases z) hn (CoL.ul ha q)
  | _, _, .z h q => .z (SqF.ul ha h) (CoL.ul ha q)
  | _, _, .m h hn q => .m (rd_ul ha h fun _ _ z => by cases z) hn (CoL.ul ha q)
  | _, _, .o h hn c q => .o (ul_of ha h fun _ _ z => by cases z) hn c (CoL.ul ha q)
  | _, _, .k h hn c1 e1 e2 q => .k (rd_ul ha h fun _ _ z => by unfold ktO at z; cases z) hn (CoL.ul ha c1) e1 e2 (CoL.ul ha q)
  | _, _, .x0 h c => .x0 (ul_of ha h fun o es => exk_nz o _) c
  | _, _, .x1 h c d q => .x1 (ul_of ha h fun o es => exk_nz o _) c (ul_of ha d fun _ _ z => by cases z) (Co.ul ha q)
theorem CoL.ul (ha : H a = some (.frz od (ktO a es))) : ∀ {vs : List V} {xs : List Dt}, CoL K M H vs xs → CoL K M (upd H a (ktO a es)) vs xs
  | _, _, .nil => .nil
  | _, _, .cons h q => .cons (Co.ul ha h) (CoL.ul ha q)
end
mutual
theorem Ho.ul (ha : H a = some (.frz od (ktO a es))) : ∀ {v : V} {x : Dt} {F : List Addr}, Ho K H v x F → Ho K (upd H a (ktO a es)) v x F
  | _, _, _, .n => .n
  | _, _, _, .f h => .f h
  | _, _, _, .b x => .b x
  | _, _, _, .i x => .i x
  | _, _, _, .s x => .s x
  | _, _, _, .t h q => .t (h.elim (fun h => .inl (rd_ul ha h fun _ _ z => by cases z)) .inr) (HoL.ul ha q)
  | _, _, _, .z h q => .z (SqF.ul ha h) (HoL.ul ha q)
  | _, _, _, .l h q => .l (ul_of ha h fun _ _ z => by cases z) (HoL.ul ha q)
  | _, _, _, .m h q => .m (ul_of ha h fun _ _ z => by cases z) (HoL.ul ha q)
  | _, _, _, .o h c q => .o (ul_of ha h fun _ _ z => by cases z) c (HoL.ul ha q)
  | _, _, _, .k h c1 e1 e2 q => .k (ul_of ha h fun _ _ z => by unfold ktO at z; cases z) (HoL.ul ha c1) e1 e2 (HoL.ul ha q)
theorem HoL.ul (ha : H a = some (.frz od (ktO a es))) : ∀ {vs : List V} {xs : List Dt} {F : List Addr}, HoL K H vs xs F → HoL K (upd H a (ktO a es)) vs xs F
  | _, _, _, .nil => .nil
  | _, _, _, .cons h q => .cons (Ho.ul ha h) (HoL.ul ha q)
end
theorem Rp.ul (ha : H a = some (.frz od (ktO a es))) {m : Md} {v : V} {x : Dt} {F : List Addr} (h : Rp K M H m v x F) : Rp K M (upd H a (ktO a es)) m v x F := by
  cases m with
  | c => exact ⟨h.1.ul ha, h.2⟩
  | t =>
    obtain ⟨b, vs, xs, rfl, rfl, eG, q, c⟩ := h
    exact ⟨b, vs, xs, rfl, rfl, eG, (ul_of ha q fun _ _ z => by cases z), c.ul ha⟩
  | a => exact Ho.ul ha h
theorem ER.ul (e : ER K r σ G M H) (ha : H a = some (.frz od (ktO a es))) (nM : ¬ M a) : ER K r σ G M (upd H a (ktO a es)) := by
  refine ⟨e.len, fun i x m h => ?_, e.emp, e.nd, e.dj, e.sub, fun b hb => ?_, fun P q k => ?_⟩
  · obtain ⟨v, h1, h2⟩ := e.at_ i x m h
    exact ⟨v, h1, h2.ul ha⟩
  · obtain ⟨o, h1, h2⟩ := e.hot b hb
    exact ⟨o, (upd_ne fun q => nM (by rw [← q]; exact hb)).trans h1, h2⟩
  · obtain ⟨ps, h1, h2, h3⟩ := e.tab P q k
    refine ⟨ps, (ul_of ha h1 fun _ _ z => by cases z), h2, fun pos cv hc => ?_⟩
    obtain ⟨c, e1, e2⟩ := h3 pos cv hc
    exact ⟨c, e1, ul_of ha e2 fun _ _ z => by unfold LamX.CodeO at z; cases z⟩
/-- a comprehension over the keys of a dict that is cold: it is locked while it runs -/
def sCst (ks : List Dt) : Ev → Ou (List Dt) := fun r => .ok ks r
def mLcK (own : Bool) (vs : List Nat) (i : Nat) (t : Vl → Ev → Option Ev) (c : Ev → Ou Bool) (f : Ev → Ou Vl) : Ev → Ou Vl := fun r => match r[i]? with
  | some (some (.k ks _, .c)) => mLc own vs (sCst ks) t c f r
  | _ => .no
def iKeysK (td : TE) : TI := fun σ H R => td σ H fun x H1 => ∃ d es od, x = .ref d ∧ H1 d = some (.frz od (ktO d es)) ∧ R (ItkN d od es) H1
def tOr (t t' : TE) : TE := fun σ H Q => t σ H Q ∨ t' σ H Q
theorem mLc_cst {own : Bool} {vs : List Nat} {ks : List Dt} {t : Vl → Ev → Option Ev} {c : Ev → Ou Bool} {f : Ev → Ou Vl} {cc : Str} {fs : List (Str × Dt)} : mLc own vs (sCst ks) t c f r ≠ .ex cc fs r' := fun z => by
  simp only [mLc, sCst] at z
  split at z
  · split at z <;> cases z
  · cases z
theorem mLcK_ok {i : Nat} {own : Bool} {vs : List Nat} {t : Vl → Ev → Option Ev} {c : Ev → Ou Bool} {f : Ev → Ou Vl} {g : TG} {Q : VK} (hg : TgOk K false g t) (hw : TgW g vs) (h : tI K cl W (mLcK own vs i t c f) σ H Q) :
    tOr (tLockE (tLc (iKeysK (tVar i)) g (tIB K cl W0 c) (tI K cl W0 f) vs)) (tLc (iKeysK (tVar i)) g (tIB K cl W0 c) (tI K cl W0 f) vs) σ H Q := by
  obtain ⟨r, M, G, e, h⟩ := h
  cases hr : r[i]? with
  | none => simp only [mLcK, hr] at h
  | some o =>
  cases o with
  | none => simp only [mLcK, hr] at h
  | some xm =>
  obtain ⟨x, m⟩ := xm
  cases x with
  | k ks ws =>
    cases m with
    | c =>
      simp only [mLcK, hr] at h
      obtain ⟨v, hv, co, _⟩ := e.at_ i _ _ hr
      cases co with
      | @k a es _ _ hR nM c1 h2 h3 c2 =>
        have nG : ∀ j, a ∉ G j := fun j z => nM (e.sub j a z)
        rcases hR with ha | ⟨od, ha⟩
        · refine .inl ⟨a, _, ha, True.intro, fun od => ?_⟩
          have e0 := e.lk (od := od) ha nG nM
          refine mLc_go (own := own) (W := W) (s := sCst ks) hg hw e0 (fun R q => ⟨.ref a, hv, a, es, od, rfl, upd_same, q _ _ M G e0 .refl (src_keysN upd_same nM (CoL.lk ha c1))⟩) ?_
          revert h
          cases hm : mLc own vs (sCst ks) t c f r with
          | no => exact fun h => h
          | ex cc fs r' => exact absurd hm mLc_cst
          | ok xm r1 =>
            obtain ⟨x, m⟩ := xm
            intro h w H' M' G' F p
            have hl : H' a = some (.frz od (ktO a es)) := p.ev.pres' a _ upd_same nG (nt := fun _ z => by cases z)
            have nM' : ¬ M' a := fun z => (p.ev.grow a z).elim nM fun q => by rw [upd_same] at q; cases q
            have up : ∀ b, lkH H a od es b = none → H b = none := fun b z => by
              by_cases q : b = a
              · rw [q] at z; unfold lkH at z; rw [upd_same] at z; cases z
              · exact (upd_ne q).symm.trans z
            refine ⟨hl, h w _ M' G' F ⟨p.er.ul hl nM', ⟨fun b o hb hq {nt} => ?_, fun b hb => ?_, fun b z => (p.ev.grow b z).imp id (up b), p.ev.keep, fun j b z => (p.ev.env j b z).imp id (up b), fun b z => (p.ev.res b z).imp id (up b)⟩, p.rp.ul hl, p.nd, p.hot⟩⟩
            · by_cases q : b = a
              · subst q; rw [ha] at hb; cases hb; exact upd_same
              · exact (upd_ne q).trans (p.ev.pres' b o ((upd_ne q).trans hb) hq (nt := nt))
            · by_cases q : b = a
              · rw [q, upd_same] at hb; cases hb
              · rw [upd_ne q] at hb; exact up b (p.ev.dom b hb)
        · refine .inr (mLc_go (own := own) (W := W) (s := sCst ks) hg hw e (fun R q => ⟨.ref a, hv, a, es, od, rfl, ha, q _ _ M G e .refl (src_keysN ha nM c1)⟩) h)
    | t => simp only [mLcK, hr] at h
    | a => simp only [mLcK, hr] at h
  | _ => simp only [mLcK, hr] at h
end
section
variable {X : Cx} {cl : Str → Addr} {W : WX}
theorem pi_keysK {td : TE} {tg e : Expr} (he : PE X e td) : PI X tg e (iKeysK td) := by
  refine ⟨fun pins s σ H R I h => ?_⟩
  refine thn (he.run pins s σ H _ I h) fun u s1 ⟨x, H1, I1, rx, d, es, od, ex, hd, q⟩ => ?_
  subst ex
  obtain rfl : u = Value.ref d := rx
  obtain ⟨hs, hgd, hx, ents, ep, hdt, hsz, ent⟩ := Inv.frzN (H := H1) I1 hd
  refine L2.iter_keys hs hgd hx hdt (pi_one (tk := s1.toks) I1 _ (turn_keysN _ hdt) ⟨_, Heap.get?_push_size _ rfl, rfl, ?_⟩ q)
  rw [hsz] <;> rfl
theorem pe_or {e : Expr} {t t' : TE} (h : PE X e t) (h' : PE X e t') : PE X e (tOr t t') := ⟨fun pins s σ H Q I q => q.elim (h.run pins s σ H Q I) (h'.run pins s σ H Q I)⟩
theorem je_lcK {elt tg iter : Expr} {ifs : List Expr} {scope : Scope} {own : List (Str × Nat)} {pos : Pos} {i : Nat} {g : TG} {t : Vl → Ev → Option Ev} {c : Ev → Ou Bool} {f : Ev → Ou Vl} (b : Bool) (hc : X.calm = true) (hN : X.N.Nodup) (hi : PE X iter (tVar i)) (ok : BlkOk X.N X.env.scope scope own)
    (hg : ∀ (s : Shared) (H : Hp) (C : Addr) (cl : List (Str × Addr)) (fp : List Addr), PG (X.blk s H scope (compEnvC scope cl C X.env) fp) tg g) (hgt : TgOk X.K false g t) (hgw : TgW g (own.map (·.2)))
    (ht : ∀ (s : Shared) (H : Hp) (C : Addr) (cl2 : List (Str × Addr)) (fp : List Addr), PTs (X.blk s H scope (compEnvC scope cl2 C X.env) fp) ifs (tIB X.K cl W0 c))
    (he : ∀ (s : Shared) (H : Hp) (C : Addr) (cl2 : List (Str × Addr)) (fp : List Addr), JE (X.blk s H scope (compEnvC scope cl2 C X.env) fp) cl W0 elt f) (hs : ∀ x, foldedSetIterable iter X.env x = pure x := by intro _; rfl) :
    JE X cl W (.ListComp elt [⟨tg, iter, ifs, 0⟩] scope pos) (mLcK b (own.map (·.2)) i t c f) := fun tk =>
  let z := pe_lc hc hN (pi_keysK hi) ok hg ht (fun s H C cl2 fp => he s H C cl2 fp takes0) hs
  (pe_or (pe_lock z) z).yimp fun σ H Q q => mLcK_ok hgt hgw q
end
section
variable {X : Cx} {cl : Str → Addr} {W : WX} {io : Bool}
def tOrS (t t' : TS) : TS := fun D σ H => t D σ H ∨ t' D σ H
theorem ps_or {st : Stmt} {t t' : TS} (h : PS X st t) (h' : PS X st t') : PS X st (tOrS t t') := ⟨fun pins s σ H D I q => q.elim (h.run pins s σ H D I) (h'.run pins s σ H D I)⟩
theorem js_setLcK {elt tg iter : Expr} {ifs : List Expr} {scope : Scope} {own : List (Str × Nat)} {pos spos : Pos} {i k : Nat} {y : Str} {py : Pos} {g : TG} {t : Vl → Ev → Option Ev} {c : Ev → Ou Bool} {f : Ev → Ou Vl} (b : Bool) (hc : X.calm = true) (hN : X.N.Nodup) (hy : X.N[i]? = some y) (hyl : X.env.scope.names.lookup y = some .local)
    (hsw : swapsWith (.ListComp elt [⟨tg, iter, ifs, 0⟩] scope pos) (some (.Name y py)) spos.line X.env = pure true) (hio : io = true → i ≠ 0) (hi : PE X iter (tVar k)) (ok : BlkOk X.N X.env.scope scope own)
    (hg : ∀ (s : Shared) (H : Hp) (C : Addr) (cl : List (Str × Addr)) (fp : List Addr), PG (X.blk s H scope (compEnvC scope cl C X.env) fp) tg g) (hgt : TgOk X.K false g t) (hgw : TgW g (own.map (·.2)))
    (ht : ∀ (s : Shared) (H : Hp) (C : Addr) (cl2 : List (Str × Addr)) (fp : List Addr), PTs (X.blk s H scope (compEnvC scope cl2 C X.env) fp) ifs (tIB X.K cl W0 c))
    (he : ∀ (s : Shared) (H : Hp) (C : Addr) (cl2 : List (Str × Addr)) (fp : List Addr), JE (X.blk s H scope (compEnvC scope cl2 C X.env) fp) cl W0 elt f) (hs : ∀ x, foldedSetIterable iter X.env x = pure x := by intro _; rfl) :
    JS X cl W io (.Assign [.Name y py] (.ListComp elt [⟨tg, iter, ifs, 0⟩] scope pos) spos) (sAsg (mLendK k (mLcK b (own.map (·.2)) k t c f)) (tgV i)) := fun tk =>
  let z := ps_setLc hc hN hy hyl hsw (pi_keysK hi) ok hg ht (fun s H C cl2 fp => he s H C cl2 fp takes0) hs
  (ps_or (ps_lock z) z).yimp fun D σ H q => mLcK_ok hgt hgw (tI_lendK (asg_go (g := gName i) (tg_name hio) q))
end
section
variable {r : Ev} {QI : List Dt → Ev → Prop} {Q : Vl → Ev → Prop} {ks : List Dt}
@[simp] theorem wI_cst : wI (sCst ks) r QI = QI ks r := rfl
@[simp] theorem wE_LcK {own : Bool} {vs : List Nat} {i : Nat} {t : Vl → Ev → Option Ev} {c : Ev → Ou Bool} {f : Ev → Ou Vl} : wE (mLcK own vs i t c f) r Q = (match r[i]? with
    | some (some (.k ks _, .c)) => wE (mLc own vs (sCst ks) t c f) r Q
    | _ => False) := by
  unfold wE mLcK
  cases r[i]? with
  | none => rfl
  | some o =>
    cases o with
    | none => rfl
    | some z =>
      obtain ⟨z, mz⟩ := z
      cases z with
      | k ks vs => cases mz <;> rfl
      | _ => rfl
theorem wE_lendK {i : Nat} {f : Ev → Ou Vl} {ks vs : List Dt} (h : r[i]? = some (some (.k ks vs, .a))) (ha : okA r = true) (q : wE f (r.set i (some (.k ks vs, .c))) fun x r2 => zfl x = true ∧ r2 = r.set i (some (.k ks vs, .c)) ∧ Q x r) : wE (mLendK i f) r Q := by
  unfold wE at q ⊢
  simp only [mLendK, h]
  cases hf : f (r.set i (some (.k ks vs, .c))) with
  | no => rw [hf] at q; exact q
  | ex c fs r' => rw [hf] at q; exact q
  | ok xm r' =>
    rw [hf] at q
    simp only at q ⊢
    rw [if_pos ⟨q.1, ha, q.2.1⟩]
    exact q.2.2
end
end Y
namespace Y
open PySem L2 PyProof.Rows
section
variable {X : Cx} {K : PySem.W.Frag} {cl : Str → Addr} {W : WX} {io : Bool} {M M' : Addr → Prop} {H H' : Hp} {G G' : Nat → List Addr} {r r' : Ev} {σ : L2.St}
def pairsN : List Dt → Option (List Dt × List Dt)
  | [] => some ([], [])
  | .t [k, y] :: xs => if kyT k = true ∧ y.flat = true then (pairsN xs).map fun p => (k :: p.1, y :: p.2) else none
  | _ => none
def fDictPN : List Dt → Option Vl
  | [.l xs] => match pairsN xs with
    | some (ks, vs) => if (keyNs ks).Nodup then some (.k ks vs, .a) else none
    | none => none
  | _ => none
abbrev PrN (K : PySem.W.Frag) (H : Hp) : Addr → (NestedKey × Addr × V) → Prop := fun p e => SqT K H p [.ref e.2.1, e.2.2]
theorem pairsN_ok : ∀ {xs : List Dt} {us : List V} {ks vs : List Dt}, CoL K M H us xs → pairsN xs = some (ks, vs) →
    ∃ (as : List Addr) (es : List (NestedKey × Addr × V)), us = as.map V.ref ∧ Paired (PrN K H) as es ∧ CoL K M H (es.map fun e => .ref e.2.1) ks ∧ ks.all kyT = true ∧ es.map (·.1) = keyNs ks ∧ CoL K M H (es.map (·.2.2)) vs ∧ flatL vs = true
  | [], _, _, _, c, h => by
    cases c
    cases h
    exact ⟨[], [], rfl, .nil, .nil, rfl, rfl, .nil, rfl⟩
  | x :: xs, _, ks, vs, c, h => by
    cases c with
    | cons c1 c2 =>
      unfold pairsN at h
      split at h
      · rename_i heq; cases heq
      · rename_i kd y xs' heq
        cases heq
        by_cases hc : kyT kd = true ∧ y.flat = true
        · rw [if_pos hc] at h
          obtain ⟨⟨ks2, vs2⟩, h2, e⟩ := Option.map_eq_some_iff.mp h
          cases e
          obtain ⟨as, es, rfl, p2, q1, q2, q3, q4, q5⟩ := pairsN_ok c2 h2
          obtain ⟨a, us, rfl, h3, c3⟩ := c1.tup
          obtain ⟨v1, v2, rfl, d1, d2⟩ := c3.two
          obtain ⟨p, rfl, _, _⟩ := d1.nkt hc.1
          exact ⟨a :: as, (keyN kd, p, v2) :: es, rfl, .cons h3 p2, .cons d1 q1, by simp [hc.1, q2], by simp [keyNs, q3], .cons d2 q4, by simp [flatL, hc.2, q5]⟩
        · rw [if_neg hc] at h; cases h
      · cases h
theorem pairs_ofN {pins : List (Addr × Obj)} {s : Shared} (I : Inv X pins σ H s) : ∀ {ps : List Addr} {es : List (NestedKey × Addr × V)}, Paired (PrN X.K H) ps es →
    ∃ xs : List (NestedKey × Addr × Value), Paired KR es xs ∧ xs.length = ps.length ∧ ∀ (j : Nat) (x : NestedKey × Addr × Value), xs[j]? = some x → ∃ b : Addr, ps[j]? = some b ∧ PairAt s.heap b (.ref x.2.1) x.2.2
  | _, _, .nil => ⟨[], .nil, rfl, fun j q e => by simp at e⟩
  | _, _, .cons (a := p) (b := e) h t => by
    obtain ⟨xs, r, hl, hp⟩ := pairs_ofN I t
    obtain ⟨its, rv, ht, _⟩ := I.tuple h
    obtain ⟨u, y, ei, ru, ry⟩ := vals2 rv
    subst ei
    obtain rfl : u = Value.ref e.2.1 := ru
    refine ⟨(e.1, e.2.1, y) :: xs, .cons ⟨rfl, rfl, ry⟩ r, by rw [List.length_cons, List.length_cons, hl], fun j q eq => ?_⟩
    cases j with
    | zero =>
      have e' : (e.1, e.2.1, y) = q := Option.some.inj eq
      subst e'
      exact ⟨p, rfl, .inl ht⟩
    | succ j =>
      obtain ⟨b, e1, e2⟩ := hp j q (by simpa using eq)
      exact ⟨b, by simpa using e1, e2⟩
theorem stored_new (ps : List (NestedKey × Addr × Value)) : ∀ {xs : List (NestedKey × Addr × Value)}, ((xs ++ ps).map (·.1)).Nodup → storedAllH xs ps = xs ++ ps := by
  induction ps with
  | nil => intro xs _; simp [storedAllH]
  | cons p ps ih =>
    intro xs h
    have hn : atKey xs p.1 = none := by
      unfold atKey
      rw [Option.map_eq_none_iff, List.find?_eq_none]
      intro x hx
      simp only [List.map_append, List.map_cons] at h
      have := (List.nodup_append.mp h).2.2 x.1 (List.mem_map.mpr ⟨x, hx, rfl⟩) p.1 (by simp)
      simpa using this
    show storedAllH (storedH xs p.1 p.2.1 p.2.2) ps = _
    rw [storedH_new hn, ih (by simpa using h)]
    simp
def rDictPN (K : PySem.W.Frag) : List V → Hp → VK → Prop := fun xs H Q => ∃ (a : Addr) (ps : List Addr) (es : List (NestedKey × Addr × V)), xs = [.ref a] ∧ SqL K H a (ps.map V.ref) ∧ Paired (PrN K H) ps es ∧ (∀ e ∈ es, NkT K H (.ref e.2.1) e.1) ∧ (es.map (·.1)).Nodup ∧
    ∀ p, H p = none → Q (.ref p) (upd H p (ktO p es))
theorem call_dictPN (hu : X.A.units + 65 < cLine) (hcalm : X.calm = true) : CallR X (.type "dict") (rDictPN X.K) := by
  intro pins s σ H xs us Q I r q
  obtain ⟨a, ps, es, ex, hq, hp, hkt, hnd, q⟩ := q
  subst ex
  obtain ⟨u, eu, rx⟩ := vals1 r
  subst eu
  cases rx
  obtain ⟨its, rv, pl, hz⟩ := I.list hq
  have ei := refs_at rv
  subst ei
  rw [List.length_map] at hz
  obtain ⟨ys, rel, hl, hpr⟩ := pairs_ofN I hp
  obtain ⟨o, n, ho, hc, hd, hdat⟩ := pl
  let prs : List (Value × Value) := ys.map fun x => (.ref x.2.1, x.2.2)
  have hy1 : ys.map (·.1) = es.map (·.1) := KR.keys rel
  have hd0 : (s.heap.objs.size == sysModules) = false := beq_eq_false_iff_ne.mpr (Nat.ne_of_gt I.big)
  have his : ∀ x ∈ ys, ∃ e ∈ es, e.1 = x.1 ∧ e.2.1 = x.2.1 := fun x hx => by
    obtain ⟨e, he, q1, q2, _⟩ := KR.mem rel hx
    exact ⟨e, he, q1, q2⟩
  refine call_dict_pairsH (knd := nestedKind X.prog X.w) (ps := ys) (PairArg.list a (ps.map Value.ref).toArray (fun j => ps.getD j 0) prs) (I.ok.hd hcalm) ?_ ⟨⟨o, n, ho, hc, hd, hdat⟩, ?_, ?_⟩ ⟨by simp [prs], ?_⟩ ?_ (by simp [prs, hl]; exact hz) fun h' tk dd k => ?_
  · show X.A.in1.in1.units + 8 < cLine
    simp only [Around.in1_units]; omega
  · simp [prs, hl]
  · intro j kv v hj
    simp only [prs, List.getElem?_map] at hj
    obtain ⟨x, hx, e⟩ := Option.map_eq_some_iff.mp hj
    cases e
    obtain ⟨b, e1, e2⟩ := hpr j x hx
    exact ⟨by simp [e1], by simpa [e1] using e2⟩
  · intro i key v hj
    simp only [PairRel, prs, List.getElem?_map] at hj
    obtain ⟨x, hx, e⟩ := Option.map_eq_some_iff.mp hj
    cases e
    exact ⟨x.1, x.2.1, hx, rfl⟩
  · intro h' hk x hx
    obtain ⟨e, he, q1, q2⟩ := his x hx
    obtain ⟨p, ep, ha, hde⟩ := hkt e he
    have hi : NestedIs s.heap e.1 (.ref e.2.1) := NkAt.is I ha rfl
    rw [← q1, ← q2]
    exact ⟨NestedIs.at (fun b ob vs n hb _ => hk b ob (Nat.ne_of_lt (Heap.lt_size hb)) (fun z => nomatch z) hb) _ _ hi, hde⟩
  · rw [stored_new ys (xs := []) (by simpa [hy1] using hnd)] at dd
    have hlen : es.length ≤ sizeLine := by rw [Paired.length rel, hl]; exact hz
    refine ⟨.ref s.heap.objs.size, upd H s.heap.objs.size (ktO s.heap.objs.size es), I.laid (t' := tk) (fun b ob hb => k b ob (fun z => nomatch z) hb) (Nat.le_refl _) (kt_new (P := X.prog) (w := X.w) hd0 hlen (fun e he => ?_) rel dd), rfl, q _ (I.hok.fresh (Nat.le_refl _))⟩
    obtain ⟨_, _, ha, _⟩ := hkt e he
    exact NkAt.hash ha
theorem Ho0.new {p : Addr} {o : HO} (hp : H p = none) {vs : List V} {xs : List Dt} (h : HoL K H vs xs []) : HoL K (upd H p o) vs xs [] := by
  refine HoL.stay (fun b xs z => ?_) (fun b o u z => ?_) h fun b z => nomatch z
  · rcases z with z | ⟨o, z⟩
    · exact .inl (same_new hp _ _ z)
    · exact .inr ⟨o, same_new hp _ _ z⟩
  · exact same_new hp _ _ z
theorem kyAll_flat : ∀ {ks : List Dt}, ks.all kyT = true → flatL ks = true
  | [], _ => rfl
  | k :: ks, h => by
    simp only [List.all_cons, Bool.and_eq_true] at h
    simp [flatL, kyT_flat h.1, kyAll_flat h.2]
theorem pr_dictPN : Pr K (rDictPN K) fDictPN := fun M H vs xs x m Q ht c hf k => by
  unfold fDictPN at hf
  split at hf
  · split at hf
    · rename_i ys ks ws hp
      by_cases hn : (keyNs ks).Nodup
      · rw [if_pos hn] at hf
        cases hf
        obtain ⟨v, rfl, c1⟩ := c.one
        obtain ⟨a, us, rfl, h1, q1⟩ := c1.lst
        obtain ⟨as, es, rfl, p2, r1, r2, r3, r4, r5⟩ := pairsN_ok q1 hp
        refine ⟨a, as, es, rfl, .inl (.inl h1), p2, kd_keys r1 r2 r3, by rw [r3]; exact hn, fun p hp => k _ _ _ ⟨same_new hp, fun b z => by rw [List.mem_singleton.mp z]; exact hp, by simp, ?_⟩⟩
        show Ho K _ _ _ _
        exact .k upd_same (Ho0.new hp (r1.ho (kyAll_flat r2))) r2 r3 (Ho0.new hp (r4.ho r5))
      · rw [if_neg hn] at hf; cases hf
    · cases hf
  · cases hf
def delN (ks vs : List Dt) (n : NestedKey) : List Dt × List Dt :=
  (((ks.zip vs).filter fun p => decide (keyN p.1 ≠ n)).map (·.1), ((ks.zip vs).filter fun p => decide (keyN p.1 ≠ n)).map (·.2))
def delNE (es : List (NestedKey × Addr × V)) (n : NestedKey) : List (NestedKey × Addr × V) := es.filter fun e => decide (e.1 ≠ n)
theorem KR.del {es : List (NestedKey × Addr × V)} {xs : List (NestedKey × Addr × Value)} (n : NestedKey) (h : Paired KR es xs) : Paired KR (delNE es n) (withoutH xs n) := by
  unfold delNE withoutH
  induction h with
  | nil => exact .nil
  | @cons e x es xs h1 _ ih =>
    rw [List.filter_cons, List.filter_cons, h1.1]
    by_cases q : x.1 = n
    · simp only [q, ne_eq, not_true, decide_false, Bool.false_eq_true, if_false]; exact ih
    · simp only [q, ne_eq, not_false_iff, decide_true, if_true]; exact .cons h1 ih
theorem del_co {n : NestedKey} : ∀ {es : List (NestedKey × Addr × V)} {ks vs : List Dt}, CoL K M H (es.map fun e => .ref e.2.1) ks → es.map (·.1) = keyNs ks → CoL K M H (es.map (·.2.2)) vs → ks.all kyT = true → flatL vs = true →
    CoL K M H ((delNE es n).map fun e => .ref e.2.1) (delN ks vs n).1 ∧ (delNE es n).map (·.1) = keyNs (delN ks vs n).1 ∧ CoL K M H ((delNE es n).map (·.2.2)) (delN ks vs n).2 ∧ (delN ks vs n).1.all kyT = true ∧ flatL (delN ks vs n).2 = true
  | [], [], [], _, _, _, _, _ => ⟨.nil, rfl, .nil, rfl, rfl⟩
  | [], _ :: _, _, c, _, _, _, _ => by cases c
  | [], [], _ :: _, _, _, c, _, _ => by cases c
  | _ :: _, [], _, c, _, _, _, _ => by cases c
  | _ :: _, _ :: _, [], _, _, c, _, _ => by cases c
  | e :: es, k :: ks, v :: vs, c, h, d, a, f => by
    simp only [List.map_cons] at c h d
    simp only [keyNs, List.cons.injEq] at h
    simp only [List.all_cons, Bool.and_eq_true] at a
    simp only [flatL, Bool.and_eq_true] at f
    cases c with
    | cons c1 c2 =>
      cases d with
      | cons d1 d2 =>
        obtain ⟨i1, i2, i3, i4, i5⟩ := del_co (n := n) c2 h.2 d2 a.2 f.2
        unfold delNE delN at *
        rw [List.zip_cons_cons, List.filter_cons, List.filter_cons, h.1]
        by_cases q : keyN k = n
        · simp only [q, ne_eq, not_true, decide_false, Bool.false_eq_true, if_false]
          exact ⟨i1, i2, i3, i4, i5⟩
        · simp only [q, ne_eq, not_false_iff, decide_true, if_true, List.map_cons]
          exact ⟨.cons c1 i1, by simp only [keyNs, i2, h.1], .cons d1 i3, by simp only [List.all_cons, a.1, Bool.true_and]; exact i4, by simp only [flatL, f.1, Bool.true_and]; exact i5⟩
def rKPop (K : PySem.W.Frag) (x y : V) (H : Hp) (Q : VK) : Prop := ∃ a es n p v, x = .ref a ∧ H a = some (ktO a es) ∧ KD K H a es ∧ y = .ref p ∧ NkT K H (.ref p) n ∧ atV es n = some v ∧ Q v (upd H a (ktO a (delNE es n)))
theorem delNE_len (es : List (NestedKey × Addr × V)) (n : NestedKey) : (delNE es n).length ≤ es.length := List.length_filter_le _ _
end
section
variable {X : Cx} {K : PySem.W.Frag} {M : Addr → Prop} {H : Hp} {cl : Str → Addr} {W : WX} {io : Bool} {td ty : TE} {o e : Expr} {apos cpos : Pos}
theorem pe_kpop (hu : X.A.units + 65 < cLine) (ho : PE X o td) (he : PE X e ty) (m : M1 X o "pop" apos e cpos) : PE X (.Call (.Attribute o "pop" apos) [e] [] cpos) (fun σ H Q => td σ H fun x H1 => (∃ a es, x = .ref a ∧ KD X.K H1 a es) ∧ ty σ H1 fun y H2 => rKPop X.K x y H2 Q) := by
  refine ⟨fun pins s σ H Q I h => ?_⟩
  refine wpAny_Call_method m.base m.few m.line PySem.F.plainAttrs_dict PySem.F.slot_dict_pop PySem.F.type_dict_pop (thn (ho.run pins s σ H _ I h) fun u s1 ⟨x, H1, I1, rx, ⟨a, es, ex, D⟩, q1⟩ => ?_)
  subst ex
  obtain rfl : u = Value.ref a := rx
  obtain ⟨t1, t2, _⟩ := D.is I1
  refine ⟨t1, t2, ?_⟩
  rw [m.trees]
  refine Calls.callWith_builtin rfl (Calls.evalArgs_plain (Calls.spliced_cons (thn (he.run pins s1 σ H1 _ I1 q1) fun iv s2 ⟨y, H2, I2, ry, a', es', n, p, v, ea, ha, D', ey, hk, hv, q2⟩ => Calls.spliced_nil ?_)))
  cases ea
  subst ey
  obtain ⟨hd, hz, _, xs, hx, rx⟩ := D'.heap I2
  obtain ⟨p', e1, e2, his⟩ := hk.is I2 ry
  cases e2
  subst e1
  rcases KR.at_ (n := n) rx with ⟨z, _⟩ | ⟨v', q, z, eq, rv⟩
  · rw [hv] at z; cases z
  · rw [hv] at z; cases z
    refine call_pop_heap (hsz := by rw [← Paired.length rx]; exact hz) (more := []) (.inl rfl) (PySem.F.args_dict_pop_2 _ _) (kroom hu) his hd hx eq fun h' dd hs => ?_
    refine ⟨_, _, ?_, rv, q2⟩
    refine I2.write (t' := _) (by rw [ha]; exact True.intro) (.inl rfl) (fun b o hb e => by rw [hs.2 b hb]; exact e) (let ⟨o, _, _, e, _⟩ := dd; ⟨o, e⟩) (kt_new hd (Nat.le_trans (delNE_len es' n) hz) (fun e he => ?_) (KR.del n rx) dd)
    obtain ⟨_, _, q, _⟩ := D'.2 e (List.mem_filter.mp he).1
    exact NkAt.hash q
/-- name.pop(f) on its own: the key is there, the values are flat -/
def sKPop (i : Nat) (f : Ev → Ou Vl) : Ev → So := fun r => if isK i r then sWith f (fun kd r1 => match r1[i]? with
    | some (some (.k ks vs, .a)) => if kyT kd.1 = true ∧ (lookN ks vs (keyN kd.1)).isSome = true ∧ flatL vs = true then .nx (r1.set i (some (.k (delN ks vs (keyN kd.1)).1 (delN ks vs (keyN kd.1)).2, .a))) else .no
    | _ => .no) r else .no
theorem js_kpop {pos : Pos} (i : Nat) {fk : Ev → Ou Vl} (hu : X.A.units + 65 < cLine) (ho : PE X o (tVar i)) (he : JE X cl W e fk) (hb : attributeBase o "pop" X.env (eval o X.env) = eval o X.env := by rfl)
    (hf : ((backTo cpos (starEach [e] X.env)).all (fun x => !x.1) && (backToKw cpos (keywordEach [] X.env)).all (fun x => x.1.isSome) && decide (([e] : List Expr).length + ([] : List Keyword).length + (if ([] : List Keyword).isEmpty then 0 else 1) < 30)) = true := by rfl)
    (hl : (apos.endLine == cpos.line) = true := by rfl) (ht : backTo cpos (starEach [e] X.env) = [(false, eval e X.env)] := by rfl) (hsw : swapsWith (.Call (.Attribute o "pop" apos) [e] [] cpos) none pos.line X.env = pure false := by rfl) :
    JS X cl W io (.Expr (.Call (.Attribute o "pop" apos) [e] [] cpos) pos) (sKPop i fk) := fun tk =>
  (ps_expr (pe_kpop hu ho (he tk) ⟨hb, hf, hl, ht⟩) hsw).yimp fun D σ H ⟨r, M, G, e, q⟩ => by
    simp only [sKPop] at q
    split at q
    · rename_i hL
      obtain ⟨a0, es0, hv0, hh0⟩ := e.isK' hL
      obtain ⟨a1, es1, h1, D0⟩ := e.kd (i := i) (by unfold Y.isK at hL; unfold isKs; split at hL <;> simp_all)
      rw [hv0] at h1; cases h1
      refine ⟨.ref a0, hv0, ⟨a0, es1, rfl, D0⟩, ?_⟩
      refine tIS_with ⟨r, M, G, e, q⟩ fun r M G kd mk r1 u H1 M1 G1 F1 e p k => ?_
      split at k
      · rename_i ks vs hr
        split at k
        · rename_i hc
          have hq := rp_flat p.rp (kyT_flat hc.1)
          have hqc : Co X.K M1 H1 u kd := hq.cold fun _ z => nomatch z
          have hkn := hqc.nkt hc.1
          obtain ⟨q, rfl, _, _⟩ := id hkn
          obtain ⟨v', hv', rpx⟩ := p.er.at_ i _ _ hr
          rw [hv0] at hv'; cases hv'
          have rpx : Ho X.K H1 (.ref a0) (.k ks vs) (G1 i) := rpx
          have nG := p.er.nd i
          generalize hG : G1 i = Gi at rpx nG
          cases rpx with
          | @k _ es _ _ F2 h3 h4 h5 h6 h7 =>
            have aG : a0 ∈ G1 i := by rw [hG]; exact List.mem_cons_self
            have c4 : CoL X.K (fun _ => False) H1 (es.map fun e => .ref e.2.1) ks := h4.cold fun _ z => nomatch z
            have c7 : CoL X.K (fun _ => False) H1 (es.map (·.2.2)) vs := h7.cold fun _ _ z => z
            have D : KD X.K H1 a0 es := ⟨.inl h3, kd_keys c4 h5 h6⟩
            obtain ⟨b1, b2, b3, b4, b5⟩ := del_co (n := keyN kd) c4 h6 c7 h5 hc.2.2
            rcases look_at (n := keyN kd) h6 c7 with ⟨q1, _⟩ | ⟨y, v, q1, q2, _⟩
            · rw [q1] at hc; cases hc.2.1
            refine ⟨a0, es, keyN kd, q, v, rfl, h3, D, rfl, hkn, q2, ?_⟩
            have ho : Ho X.K (upd H1 a0 (ktO a0 (delNE es (keyN kd)))) (.ref a0) (.k (delN ks vs (keyN kd)).1 (delN ks vs (keyN kd)).2) [a0] :=
              .k upd_same ((b1.ho (kyAll_flat b4)).upO h3 kt_hot fun z => nomatch z) b4 b2 ((b3.ho b5).upO h3 kt_hot fun z => nomatch z)
            have sub : ∀ b ∈ [a0], b ∈ G1 i := fun b hb => by rw [List.mem_singleton.mp hb]; exact aG
            exact k σ _ M1 _ ⟨hot_go p.er hv0 aG kt_hot ho (by simp) (fun b hb => .inl (sub b hb)) (F := []) (fun _ y => nomatch y), wr_evo e p sub aG, fun _ => rfl⟩
        · exact k.elim
      · exact k.elim
    · exact q.elim
def rEqK0 (K : PySem.W.Frag) : R2 := fun x y H Q => ∃ a b, x = .ref a ∧ y = .ref b ∧ Rd H a (ktO a []) ∧ Rd H b (.dK []) ∧ Q (.bl true) H
theorem op_eqK0 (hu : X.A.units + 64 < cLine) : OpR X (compareOp .Eq) (rEqK0 X.K) := by
  intro pins s σ H x y v u Q I rx ry h
  obtain ⟨a, b, rfl, rfl, ha, hb, q⟩ := h
  cases rx
  cases ry
  obtain ⟨⟨h1, _, _, o, ents, ep, xs, e1, e2, e3, e4, e5⟩, _⟩ := ha.ok I.hok
  cases e5
  obtain ⟨_, g1, kvs, gr, gd⟩ := hb.ok I.hok
  cases gr
  have da : s.heap.DictOf (mixKind X.prog X.w) a [] := by
    obtain rfl : ents = #[] := by simpa using e4
    exact ⟨o, #[], ep, e1, e2, e3, by intro i hi; simp at hi, .nil, by simp⟩
  exact PySem.W.rcP_dicts (r := true) h1 g1 da gd (by omega) (fun _ => .nil) _ _ ⟨.bl true, _, I, rfl, q⟩
theorem Co.m0 {v : V} {x : Dt} (c : Co K M H v x) (e : x = .m [] []) : ∃ b, v = .ref b ∧ Rd H b (.dK []) := by
  cases c with
  | @m a kvs xs h1 h2 h3 =>
    injection e with e1 e2
    cases kvs with
    | nil => exact ⟨a, rfl, h1⟩
    | cons _ _ => simp at e1
  | _ => cases e
theorem Co.k0 {v : V} {x : Dt} (c : Co K M H v x) (e : x = .k [] []) : ∃ b, v = .ref b ∧ Rd H b (ktO b []) := by
  cases c with
  | @k a es ks vs h1 h2 h3 h4 h5 h6 =>
    injection e with e1 e2
    subst e1
    cases es with
    | nil => exact ⟨a, rfl, h1⟩
    | cons _ _ => simp [keyNs] at h5
  | _ => cases e
def fEqK0 : List Dt → Option Vl
  | [.k [] [], .m [] []] => some (.b true, .c)
  | _ => none
theorem pr_eqK0 : Pr K (ap2 (rEqK0 K)) fEqK0 := fun M H vs xs x m Q ht c hf k => by
  unfold fEqK0 at hf
  split at hf
  · cases hf
    obtain ⟨v, w, rfl, c1, c2⟩ := c.two
    obtain ⟨a, rfl, ha⟩ := c1.k0 rfl
    obtain ⟨b, rfl, hb⟩ := c2.m0 rfl
    exact ⟨a, b, rfl, rfl, ha, hb, k _ _ _ (mk_c ht (.b _))⟩
  · cases hf
end
section
variable {r : Ev} {Qn : Ev → Prop} {Qr : Vl → Ev → Prop} {Qb Qc : Ev → Prop} {i : Nat} {f : Ev → Ou Vl} {Q : Dt → Md → Prop}
@[simp] theorem wS_kpop : wS (sKPop i f) r Qn Qr Qb Qc = (isK i r = true ∧ wE f r fun k r1 => match r1[i]? with
    | some (some (.k ks vs, .a)) => kyT k.1 = true ∧ (lookN ks vs (keyN k.1)).isSome = true ∧ flatL vs = true ∧ setK r1 i (some (.k (delN ks vs (keyN k.1)).1 (delN ks vs (keyN k.1)).2, .a)) Qn
    | _ => False) := by
  unfold wS sKPop wE setK
  by_cases h : isK i r = true
  · rw [if_pos h]
    simp only [h, true_and, sWith]
    cases f r with
    | ok k r1 =>
      obtain ⟨k, mk⟩ := k
      simp only
      cases r1[i]? with
      | none => rfl
      | some o =>
        cases o with
        | none => rfl
        | some z =>
          obtain ⟨z, mz⟩ := z
          cases z with
          | k ks vs =>
            cases mz with
            | a =>
              simp only
              by_cases hc : kyT k = true ∧ (lookN ks vs (keyN k)).isSome = true ∧ flatL vs = true
              · rw [if_pos hc]
                simp only [eq_iff_iff]
                exact ⟨fun z => ⟨hc.1, hc.2.1, hc.2.2, z⟩, fun ⟨_, _, _, z⟩ => z⟩
              · rw [if_neg hc]
                simp only [false_iff, eq_iff_iff]
                rintro ⟨h1, h2, h3, _⟩
                exact hc ⟨h1, h2, h3⟩
            | c => rfl
            | t => rfl
          | _ => rfl
    | ex _ _ _ => rfl
    | no => rfl
  · rw [if_neg h]
    simp [h]
theorem wO_dictPN {xs ks vs : List Dt} (h : pairsN xs = some (ks, vs)) (hn : (keyNs ks).Nodup) : wO (fDictPN [.l xs]) Q = Q (.k ks vs) .a := by
  unfold fDictPN
  simp only [h, if_pos hn, wO_some]
@[simp] theorem wO_eqK0 : wO (fEqK0 [.k [] [], .m [] []]) Q = Q (.b true) .c := rfl
end
end Y
namespace YL
open PySem L2 PyProof.Rows Y
def top (i : Nat) : Stmt := PySem.Challenge.pw_sortdoors_k13_whole_all_rows_of_small_ho.main.body.getD i (.Pass ⟨0, 0, 0, 0⟩)
noncomputable def m__law_folded : Ev → So :=
  sSeq (sAsg (mP fList [.e (mSl (.v 0) none (some (mV 1)))]) (tgV 2)) (
  sSeq (sFor (mS sEnum [.e (mSl (.v 0) (some (mV 1)) (some (mK (.i 63))))]) (tgT [(tgV 3), (tgV 4)]) (
  sAsg (mP fAdd [.e (mP fIx [.v 2, .e (mP fMod [.v 3, .v 1])]), .e (mP fMul [.v 4, .e (mP fAdd [.v 3, .e (mK (.i 2))])])]) (tgI 2 (mP fMod [.v 3, .v 1])))) (
  sRetV 2))
@[irreducible] noncomputable def fn__law_folded : Fn := mkFn false 5 m__law_folded
noncomputable def m__law_cells : Ev → So :=
  sRet (mIf (mTe (mP fNe [.v 0, .e (mP fLst [])])) (mC fn__law_folded [.v 0, .v 1]) (mP fLst [.e (mK (.i 0))]))
@[irreducible] noncomputable def fn__law_cells : Fn := mkFn false 2 m__law_cells
noncomputable def m__law_draw : Ev → So :=
  sSeq (sIf (mTe (mP fGt [.e (mP fIx [.v 0, .e (mK (.i 0))]), .e (mK (.i 0))])) (
  sSeq (sAsg (mP fMod [.e (mP fIx [.v 0, .e (mK (.i 0))]), .v 1]) (tgV 2)) (
  sSeq (sAsg (mP fDiv [.e (mP fIx [.v 0, .e (mK (.i 0))]), .v 1]) (tgI 0 (mK (.i 0)))) (
  sRetV 2))) (sNx)) (
  sSeq (sAsg (mP fAdd [.e (mP fIx [.v 0, .e (mK (.i 2))]), .e (mK (.i 1))]) (tgI 0 (mK (.i 2)))) (
  sSeq (sAsg (mP fMod [.e (mP fPow [.e (mP fAdd [.e (mP fIx [.v 0, .e (mK (.i 1))]), .e (mP fMul [.e (mK (.i 39373)), .e (mP fIx [.v 0, .e (mK (.i 2))])])]), .e (mK (.i 5))]), .e (mK (.i 2147483647))]) (tgV 3)) (
  sSeq (sAsg (mP fMod [.e (mP fMul [.e (mP fAdd [.v 3, .e (mP fIx [.v 0, .e (mK (.i 2))])]), .e (mP fAdd [.e (mP fAdd [.e (mP fMod [.v 3, .e (mK (.i 40009))]), .e (mK (.i 7))]), .e (mP fIx [.v 0, .e (mK (.i 2))])])]), .e (mK (.i 2147483629))]) (tgV 4)) (
  sSeq (sAsg (mP fMod [.e (mP fAdd [.e (mP fAdd [.e (mP fDiv [.e (mP fIx [.v 0, .e (mK (.i 1))]), .e (mK (.i 2147483647))]), .e (mP fMul [.v 4, .e (mK (.i 40009))])]), .e (mP fIx [.v 0, .e (mK (.i 2))])]), .e (mK (.i 2305843009213693951))]) (tgV 5)) (
  sRet (mP fMod [.e (mP fDiv [.e (mP fMod [.e (mP fAdd [.e (mP fAdd [.e (mP fMul [.v 4, .e (mK (.i 48271))]), .e (mP fMul [.v 5, .e (mK (.i 39373))])]), .v 3]), .e (mK (.i 2305843009213693921))]), .e (mK (.i 64))]), .v 1]))))))
@[irreducible] noncomputable def fn__law_draw : Fn := mkFn true 6 m__law_draw
noncomputable def m__law_ends_all : Ev → So :=
  sSeq (sAsg (mP fDictPN [.e (mLcK false [4] 0 (tgV 4) (mYes) (mP fTup [.v 4, .e (mFz (mP fList [.e (mP fKIx [.v 0, .v 4])]))]))]) (tgV 1)) (
  sSeq (sFor (mS sRng1 [.e (mK (.i 400))]) (tgV 2) (
  sSeq (sAsg (mLendK 1 (mLcK false [4] 1 (tgV 4) (mTe (mP fEq [.e (mP fKIx [.v 1, .v 4]), .e (mP fLst [])])) (mV 4))) (tgV 3)) (
  sSeq (sFor (mS sSq [.v 3]) (tgV 4) (
  sKPop 1 (mV 4))) (
  sIf (mTe (mP fNe [.v 3, .e (mP fLst [])])) (
  sAsg (mP fDictPN [.e (mLc false [4] (sKeys 1) (tgV 4) (mYes) (mP fTup [.v 4, .e (mFz (mLc false [5] (mS sSq [.e (mP fKIx [.v 1, .v 4])]) (tgV 5) (mTe (mP fKIn [.v 5, .v 1])) (mV 5)))]))]) (tgV 1)) (sNx))))) (
  sRet (mP fEqK0 [.v 1, .e (mDNew)])))
@[irreducible] noncomputable def fn__law_ends_all : Fn := mkFn false 6 m__law_ends_all
noncomputable def m__law_of : Ev → So :=
  sRet (mP fIx [.v 1, .e (mCI fn__law_draw 0 [.e (mP fLen [.v 1])])])
@[irreducible] noncomputable def fn__law_of : Fn := mkFn true 2 m__law_of
noncomputable def m__law_dealt : Ev → So :=
  sSeq (sAsg (mLc true [7] (mS sRng1 [.e (mP fAdd [.v 2, .e (mK (.i 1))])]) (tgV 7) (mYes) (mLstO [])) (tgV 3)) (
  sSeq (sFor (mS sSq [.v 1]) (tgV 4) (
  sApN 3 [mCI fn__law_draw 0 [.e (mP fAdd [.v 2, .e (mK (.i 1))])]] (mV 4))) (
  sSeq (sAsg (mP fAdd [.e (mP fLst [.e (mK (.i 0)), .e (mP fPow [.e (mK (.i 10)), .e (mK (.i 12))])]), .e (mP fMul [.v 1, .e (mK (.i 4))])]) (tgV 5)) (
  sSeq (sAsg (mLc false [8] (mS sRng1 [.v 2]) (tgV 8) (mYes) (mP fAdd [.e (mCI fn__law_of 0 [.v 5]), .e (mP fIx [.e (mP fLst [.e (mK (.i 0)), .e (mK (.i 0)), .e (mK (.i 1)), .e (mP fNeg [.e (mK (.i 1))])]), .e (mCI fn__law_draw 0 [.e (mK (.i 4))])])])) (tgV 6)) (
  sSeq (sAsg (mLc false [9] (mS sSq [.v 6]) (tgV 9) (mYes) (mP fMax2 [.e (mK (.i 0)), .e (mP fMin2 [.e (mP fPow [.e (mK (.i 10)), .e (mK (.i 12))]), .v 9])])) (tgV 6)) (
  sRet (mP fTup [.e (mP fTuple [.e (mLc false [10] (mS sSq [.v 3]) (tgV 10) (mYes) (mP fTuple [.v 10]))]), .e (mP fTuple [.v 6])]))))))
@[irreducible] noncomputable def fn__law_dealt : Fn := mkFn true 11 m__law_dealt
noncomputable def m__law_folk : Ev → So :=
  sSeq (sPar [2, 3, 4] [mCI fn__law_draw 0 [.e (mK (.i 3))], mP fIx [.e (mP fLst [.e (mK (.i 0)), .e (mK (.i 0)), .e (mP fSub [.e (mP fPow [.e (mK (.i 10)), .e (mK (.i 12))]), .e (mK (.i 1000))])]), .e (mCI fn__law_draw 0 [.e (mK (.i 3))])], mP fLst []]) (
  sSeq (sAsg (mP fIx [.e (mP fLst [.e (mK (.i 1)), .e (mK (.i 3)), .e (mIf (mTe (mP fEq [.v 3, .e (mK (.i 0))])) (mP fPow [.e (mK (.i 10)), .e (mK (.i 9))]) (mK (.i 20)))]), .v 2]) (tgV 5)) (
  sSeq (sFor (mS sRng1 [.v 1]) (tgV 6) (
  sSeq (sAsg (mP fAdd [.e (mP fAdd [.v 3, .e (mK (.i 1))]), .e (mCI fn__law_draw 0 [.v 5])]) (tgV 3)) (
  sAppG 4 (mV 3)))) (
  sRetV 4)))
@[irreducible] noncomputable def fn__law_folk : Fn := mkFn true 7 m__law_folk
noncomputable def m__law_new : Ev → So :=
  sRet (mP fTup [.e (mP fAdd [.e (mP fTup [.e (mP fTuple [.e (mP fSorted [.v 0])])]), .e (mP fMul [.e (mP fTup [.e (mP fTup [])]), .v 1])]), .e (mP fMul [.e (mP fTup [.e (mK (.i 0))]), .v 1])])
@[irreducible] noncomputable def fn__law_new : Fn := mkFn false 2 m__law_new
noncomputable def m__law_behind : Ev → So :=
  sSeq (sAsg (mV 1) (tgT [(tgV 2), (tgV 3)])) (
  sSeq (sPar [4, 5] [mP fList [.e (mP fIx [.v 0, .e (mK (.i 0))])], mP fIx [.v 0, .e (mK (.i 1))]]) (
  sSeq (sAsg (mIf (mTe (mP (fInA false) [.v 2, .e (mP fIx [.v 4, .e (mP fSub [.v 3, .e (mK (.i 1))])])])) (mP fTup [.e (mP fSub [.v 3, .e (mK (.i 1))]), .v 3]) (mP fTup [.v 3, .e (mP fSub [.v 3, .e (mK (.i 1))])])) (tgT [(tgV 6), (tgV 7)])) (
  sSeq (sAsg (mP fTuple [.e (mLc false [8] (mS sSq [.e (mP fIx [.v 4, .v 6])]) (tgV 8) (mTe (mP fNe [.v 8, .v 2])) (mV 8))]) (tgI 4 (mV 6))) (
  sSeq (sAsg (mP fTuple [.e (mP fSorted [.e (mP fAdd [.e (mP fIx [.v 4, .v 7]), .e (mP fTup [.v 2])])])]) (tgI 4 (mV 7))) (
  sRet (mP fTup [.e (mP fTuple [.v 4]), .e (mP fAdd [.e (mP fAdd [.e (mSl (.v 5) none (some (mP fSub [.v 3, .e (mK (.i 1))]))), .e (mP fTup [.v 2])]), .e (mSl (.v 5) (some (mV 3)) none)])]))))))
@[irreducible] noncomputable def fn__law_behind : Fn := mkFn false 9 m__law_behind
noncomputable def m__law_steps : Ev → So :=
  sSeq (sAsg (mV 0) (tgT [(tgV 1), (tgV 2)])) (
  sSeq (sAsg (mP fLst []) (tgV 3)) (
  sSeq (sFor (mS sEnum [.v 2]) (tgT [(tgV 4), (tgV 5)]) (
  sSeq (sAsg (mP fAdd [.v 3, .e (mLc false [6] (mS sSq [.e (mP fIx [.v 1, .v 4])]) (tgV 6) (mTe (mP fGt [.v 6, .v 5])) (mP fTup [.v 6, .e (mP fAdd [.v 4, .e (mK (.i 1))])]))]) (tgV 3)) (
  sAsg (mP fAdd [.v 3, .e (mLc false [6] (mS sSq [.e (mP fIx [.v 1, .e (mP fAdd [.v 4, .e (mK (.i 1))])])]) (tgV 6) (mTe (mP fLt [.v 6, .v 5])) (mP fTup [.v 6, .e (mP fAdd [.v 4, .e (mK (.i 1))])]))]) (tgV 3)))) (
  sRet (mP fSorted [.v 3]))))
@[irreducible] noncomputable def fn__law_steps : Fn := mkFn false 7 m__law_steps
noncomputable def m__law_walk : Ev → So :=
  sSeq (sAsg (mP fLst []) (tgV 3)) (
  sSeq (sFor (mS sRng1 [.v 2]) (tgV 4) (
  sSeq (sAsg (mC fn__law_steps [.v 1]) (tgV 5)) (
  sIf (mTe (mP fNe [.v 5, .e (mP fLst [])])) (
  sSeq (sAppG 3 (mCI fn__law_of 0 [.v 5])) (
  sAsg (mC fn__law_behind [.v 1, .e (mP fIx [.v 3, .e (mP fNeg [.e (mK (.i 1))])])]) (tgV 1))) (sNx)))) (
  sRet (mP fTup [.v 1, .v 3])))
@[irreducible] noncomputable def fn__law_walk : Fn := mkFn true 6 m__law_walk
noncomputable def m__law_house : Ev → So :=
  sSeq (sPar [3, 4] [mCI fn__law_folk 0 [.e (mCI fn__law_draw 0 [.e (mP fAdd [.v 1, .e (mK (.i 1))])])], mP fAdd [.e (mK (.i 1)), .e (mCI fn__law_draw 0 [.v 2])]]) (
  sSeq (sIf (mTe (mP fEq [.e (mCI fn__law_draw 0 [.e (mK (.i 2))]), .e (mK (.i 0))])) (
  sRet (mP fIx [.e (mCI fn__law_walk 0 [.e (mC fn__law_new [.v 3, .v 4]), .e (mCI fn__law_draw 0 [.e (mK (.i 40))])]), .e (mK (.i 0))])) (sNx)) (
  sRet (mCI fn__law_dealt 0 [.v 3, .v 4])))
@[irreducible] noncomputable def fn__law_house : Fn := mkFn true 5 m__law_house
noncomputable def m__law_lot : Ev → So :=
  sSeq (sPar [1, 2] [mKD1 (mV 0) (.n), mP fLst [.v 0]]) (
  sSeq (sFor (mS sRng1 [.e (mK (.i 400))]) (tgV 3) (
  sSeq (sAsg (mP fLst []) (tgV 4)) (
  sSeq (sFor (mS sSq [.v 2]) (tgV 5) (
  sSeq (sAsg (mFz (mLc false [7] (mS sSq [.e (mC fn__law_steps [.v 5])]) (tgV 7) (mYes) (mC fn__law_behind [.v 5, .v 7]))) (tgK 1 (mV 5))) (
  sFor (mS sSq [.e (mP fKIx [.v 1, .v 5])]) (tgV 6) (
  sIf (mTe (mP fKNin [.v 6, .v 1])) (
  sSeq (sAsg (mK .n) (tgK 1 (mV 6))) (
  sAppG 4 (mV 6))) (sNx))))) (
  sAsg (mV 4) (tgV 2))))) (
  sRetV 1))
@[irreducible] noncomputable def fn__law_lot : Fn := mkFn false 8 m__law_lot
noncomputable def m__law_same (g : Fn) : Ev → So :=
  sSeq (sIf (mTe (mP (fIsi ["list", "tuple"]) [.v 1])) (
  sSeq (sIf (mOr (mTe (mP fNe [.e (mP (fIsi ["list"]) [.v 0]), .e (mP (fIsi ["list"]) [.v 1])])) (mTe (mP fNe [.e (mP (fIsi ["tuple"]) [.v 0]), .e (mP (fIsi ["tuple"]) [.v 1])]))) (
  sRet (mK (.b false))) (sNx)) (
  sRet (mAndV (mP fEq [.e (mP fLen [.v 0]), .e (mP fLen [.v 1])]) (mP fAll [.e (mLc false [2, 3] (mS sZip [.v 0, .v 1]) (tgT [(tgV 2), (tgV 3)]) (mYes) (mC g [.v 2, .v 3]))])))) (sNx)) (
  sSeq (sIf (mOr (mTe (mP fIs [.v 1, .e (mK .n)])) (mTe (mP (fIsi ["str", "bool"]) [.v 1]))) (
  sRet (mAndV (mP fEq [.e (mP (fIsi ["bool"]) [.v 0]), .e (mP (fIsi ["bool"]) [.v 1])]) (mP fEq [.v 0, .v 1]))) (sNx)) (
  sRet (mAndV (mP (fIsi ["int"]) [.v 0]) (mAndV (mNotV (mP (fIsi ["bool"]) [.v 0])) (mP fEq [.v 0, .v 1])))))
noncomputable def fr__law_same : Nat → Fn
  | 0 => fnNo
  | d + 1 => mkFn false 4 (m__law_same (fr__law_same d))
@[irreducible] noncomputable def fn__law_same (d : Nat) : Fn := fr__law_same d
theorem fn__law_same_0 : fn__law_same 0 = fnNo := by unfold fn__law_same; rfl
theorem fn__law_same_s (d : Nat) : fn__law_same (d + 1) = mkFn false 4 (m__law_same (fn__law_same d)) := by unfold fn__law_same; rfl
noncomputable def m__law_seen_by : Ev → So :=
  sSeq (sAsg (mP fTup [.e (mP fIx [.e (mP fIx [.v 0, .e (mK (.i 1))]), .e (mP fSub [.v 1, .e (mK (.i 1))])]), .e (mP fIx [.e (mP fIx [.v 0, .e (mK (.i 1))]), .v 1])]) (tgT [(tgV 2), (tgV 3)])) (
  sSeq (sIf (mNot (mTe (mP fGt [.v 2, .v 3]))) (
  sRet (mK .n)) (sNx)) (
  sRet (mLc false [4] (mS sSq [.e (mP fIx [.e (mP fIx [.v 0, .e (mK (.i 0))]), .v 1])]) (tgV 4) (mNot (mTe (mCh fLt fLt (.v 3) (.v 4) (.v 2)))) (mV 4))))
@[irreducible] noncomputable def fn__law_seen_by : Fn := mkFn false 5 m__law_seen_by
noncomputable def m__law_unwell : Ev → So :=
  sRet (mLc false [1] (mS sRng2 [.e (mK (.i 1)), .e (mP fLen [.e (mP fIx [.v 0, .e (mK (.i 1))])])]) (tgV 1) (mTe (mP fEq [.e (mC fn__law_seen_by [.v 0, .v 1]), .e (mP fLst [])])) (mV 1))
@[irreducible] noncomputable def fn__law_unwell : Fn := mkFn false 2 m__law_unwell
noncomputable def m_made : Ev → So :=
  sSeq (sAsg (mV 0) (tgT [(tgV 1), (tgV 2)])) (
  sRet (mP fTup [.e (mP fTuple [.e (mLc false [3] (mS sSq [.v 1]) (tgV 3) (mYes) (mP fTuple [.v 3]))]), .e (mP fTuple [.v 2])]))
@[irreducible] noncomputable def fn_made : Fn := mkFn false 4 m_made
noncomputable def m_moved : Ev → So :=
  sSeq (sAsg (mP fList [.v 0]) (tgV 4)) (
  sSeq (sAsg (mP fTuple [.e (mLc false [5] (mS sSq [.e (mP fIx [.v 4, .v 2])]) (tgV 5) (mTe (mP fNe [.v 5, .v 1])) (mV 5))]) (tgI 4 (mV 2))) (
  sSeq (sAsg (mP fTuple [.e (mP fSorted [.e (mP fAdd [.e (mP fIx [.v 4, .v 3]), .e (mP fTup [.v 1])])])]) (tgI 4 (mV 3))) (
  sRet (mP fTuple [.v 4]))))
@[irreducible] noncomputable def fn_moved : Fn := mkFn false 6 m_moved
noncomputable def m_way_let : Ev → So :=
  sSeq (sAsg (mV 0) (tgT [(tgV 3), (tgV 4)])) (
  sSeq (sIf (mNot (mTe (mCh fLe fLt (.e (mK (.i 1))) (.v 2) (.e (mP fLen [.v 3]))))) (
  sRet (mK .n)) (sNx)) (
  sSeq (sIf (mAnd (mTe (mP (fInA false) [.v 1, .e (mP fIx [.v 3, .e (mP fSub [.v 2, .e (mK (.i 1))])])])) (mTe (mP fGt [.v 1, .e (mP fIx [.v 4, .e (mP fSub [.v 2, .e (mK (.i 1))])])]))) (
  sRet (mK (.s (PySem.Str.ofString "forth")))) (sNx)) (
  sRet (mIf (mAnd (mTe (mP (fInA false) [.v 1, .e (mP fIx [.v 3, .v 2])])) (mTe (mP fLt [.v 1, .e (mP fIx [.v 4, .e (mP fSub [.v 2, .e (mK (.i 1))])])]))) (mK (.s (PySem.Str.ofString "back"))) (mK .n)))))
@[irreducible] noncomputable def fn_way_let : Fn := mkFn false 5 m_way_let
noncomputable def m_way : Ev → So :=
  sSeq (sAsg (mC fn_way_let [.v 0, .e (mP fIx [.v 1, .e (mK (.i 0))]), .e (mP fIx [.v 1, .e (mK (.i 1))])]) (tgV 2)) (
  sSeq (sIf (mTe (mP fIs [.v 2, .e (mK .n)])) (
  sNo) (sNx)) (
  sRetV 2))
@[irreducible] noncomputable def fn_way : Fn := mkFn false 3 m_way
noncomputable def m_gone : Ev → So :=
  sSeq (sAsg (mV 1) (tgT [(tgV 2), (tgV 3)])) (
  sSeq (sAsg (mP fEq [.e (mC fn_way [.v 0, .v 1]), .e (mK (.s (PySem.Str.ofString "forth")))]) (tgV 4)) (
  sSeq (sAsg (mC fn_made [.v 0]) (tgT [(tgV 5), (tgV 6)])) (
  sSeq (sAsg (mIf (mTe (mV 4)) (mP fTup [.e (mP fSub [.v 3, .e (mK (.i 1))]), .v 3]) (mP fTup [.v 3, .e (mP fSub [.v 3, .e (mK (.i 1))])])) (tgT [(tgV 7), (tgV 8)])) (
  sRet (mP fTup [.e (mC fn_moved [.v 5, .v 2, .v 7, .v 8]), .e (mP fAdd [.e (mP fAdd [.e (mSl (.v 6) none (some (mP fSub [.v 3, .e (mK (.i 1))]))), .e (mP fTup [.v 2])]), .e (mSl (.v 6) (some (mV 3)) none)])])))))
@[irreducible] noncomputable def fn_gone : Fn := mkFn false 9 m_gone
noncomputable def m_may_go : Ev → So :=
  sSeq (sAsg (mP fLst []) (tgV 1)) (
  sSeq (sFor (mS sEnum [.e (mP fIx [.v 0, .e (mK (.i 0))])]) (tgT [(tgV 2), (tgV 3)]) (
  sSeq (sAsg (mLc false [5] (mS sSq [.e (mP fTup [.v 2, .e (mP fAdd [.v 2, .e (mK (.i 1))])])]) (tgV 5) (mTe (mCh fLt fLt (.e (mK (.i 0))) (.v 5) (.e (mP fLen [.e (mP fIx [.v 0, .e (mK (.i 0))])])))) (mV 5)) (tgV 4)) (
  sExt 1 (mLc2 [6, 5] [5] (mS sSq [.v 3]) (tgV 6) (mYes) (mS sSq [.v 4]) (tgV 5) (mTe (mP fNot [.e (mC fn_way_let [.v 0, .v 6, .v 5]), .e (mK .n)])) (mP fTup [.v 6, .v 5]))))) (
  sRet (mP fSorted [.v 1])))
@[irreducible] noncomputable def fn_may_go : Fn := mkFn false 7 m_may_go
noncomputable def m_is_end : Ev → So :=
  sRet (mP fEq [.e (mP fLen [.e (mC fn_may_go [.v 0])]), .e (mK (.i 0))])
@[irreducible] noncomputable def fn_is_end : Fn := mkFn false 1 m_is_end
noncomputable def m_is_sorted : Ev → So :=
  sSeq (sAsg (mLc2 [2, 3] [3] (mS sSq [.e (mP fIx [.v 0, .e (mK (.i 0))])]) (tgV 2) (mYes) (mS sSq [.v 2]) (tgV 3) (mYes) (mV 3)) (tgV 1)) (
  sRet (mP fEq [.v 1, .e (mP fSorted [.v 1])]))
@[irreducible] noncomputable def fn_is_sorted : Fn := mkFn false 4 m_is_sorted
noncomputable def m_witnesses : Ev → So :=
  sSeq (sAsg (mP fTup [.e (mP fIx [.e (mP fIx [.v 0, .e (mK (.i 1))]), .e (mP fSub [.v 1, .e (mK (.i 1))])]), .e (mP fIx [.e (mP fIx [.v 0, .e (mK (.i 1))]), .v 1])]) (tgT [(tgV 2), (tgV 3)])) (
  sSeq (sIf (mTe (mP fLe [.v 2, .v 3])) (
  sRet (mK .n)) (sNx)) (
  sRet (mLc false [4] (mS sSq [.e (mP fIx [.e (mP fIx [.v 0, .e (mK (.i 0))]), .v 1])]) (tgV 4) (mOr (mTe (mP fGe [.v 4, .v 2])) (mTe (mP fLe [.v 4, .v 3]))) (mV 4))))
@[irreducible] noncomputable def fn_witnesses : Fn := mkFn false 5 m_witnesses
noncomputable def m_unwell : Ev → So :=
  sRet (mLc false [1] (mS sRng2 [.e (mK (.i 1)), .e (mP fLen [.e (mP fIx [.v 0, .e (mK (.i 1))])])]) (tgV 1) (mTe (mP fEq [.e (mC fn_witnesses [.v 0, .v 1]), .e (mP fLst [])])) (mV 1))
@[irreducible] noncomputable def fn_unwell : Fn := mkFn false 2 m_unwell
noncomputable def m_is_well : Ev → So :=
  sRet (mP fEq [.e (mC fn_unwell [.v 0]), .e (mP fLst [])])
@[irreducible] noncomputable def fn_is_well : Fn := mkFn false 1 m_is_well
noncomputable def m__law_right : Ev → So :=
  sSeq (sPar [1, 2] [mCI fn__law_house 0 [.e (mK (.i 4)), .e (mK (.i 2))], mCI fn__law_draw 0 [.e (mK (.i 3))]]) (
  sSeq (sAsg (mIf (mTe (mP fGt [.v 2, .e (mK (.i 0))])) (mV 1) (mP fTup [.e (mP fIx [.v 1, .e (mK (.i 0))]), .e (mP fMul [.e (mP fTup [.e (mK (.i 0))]), .e (mP fLen [.e (mP fIx [.v 1, .e (mK (.i 1))])])])])) (tgV 1)) (
  sSeq (sPar [3, 4] [mC fn__law_lot [.v 1], mC fn_is_well [.v 1]]) (
  sSeq (sIf (mOr (mNot (mTe (mC fn__law_ends_all [.v 3]))) (mTe (mP fNe [.v 4, .e (mP fEq [.e (mC fn__law_unwell [.v 1]), .e (mP fLst [])])]))) (
  sRet (mK (.b false))) (sNx)) (
  sSeq (sFor (mS sEnum [.e (mPk fSortKN [.v 3])]) (tgT [(tgV 5), (tgV 6)]) (
  sSeq (sIf (mOr (mAnd (mTe (mV 4)) (mTe (mP fNe [.e (mC fn_unwell [.v 6]), .e (mP fLst [])]))) (mTe (mP fNe [.e (mC fn_is_end [.v 6]), .e (mP fEq [.e (mP fKIx [.v 3, .v 6]), .e (mP fLst [])])]))) (
  sRet (mK (.b false))) (sNx)) (
  sSeq (sIf (mAnd (mTe (mP fEq [.e (mP fKIx [.v 3, .v 6]), .e (mP fLst [])])) (mAnd (mNot (mTe (mC fn_is_sorted [.v 6]))) (mOr (mTe (mV 4)) (mTe (mC fn_is_well [.v 6]))))) (
  sRet (mK (.b false))) (sNx)) (
  sIf (mTe (mP fEq [.e (mP fMod [.v 5, .e (mK (.i 7))]), .e (mK (.i 0))])) (
  sSeq (sIf (mNot (mTe (mC (fn__law_same 8) [.e (mC fn_may_go [.v 6]), .e (mC fn__law_steps [.v 6])]))) (
  sRet (mK (.b false))) (sNx)) (
  sIf (mTe (mP fNe [.e (mLc false [7] (mS sSq [.e (mC fn_may_go [.v 6])]) (tgV 7) (mYes) (mC fn_gone [.v 6, .v 7])), .e (mP fKIx [.v 3, .v 6])])) (
  sRet (mK (.b false))) (sNx))) (sNx))))) (
  sRet (mK (.b true)))))))
@[irreducible] noncomputable def fn__law_right : Fn := mkFn true 8 m__law_right
noncomputable def m__law_tape : Ev → So :=
  sSeq (sAsg (mIf (mTe (mP fLt [.v 1, .e (mP fLen [.v 0])])) (mP fIx [.v 0, .v 1]) (mK (.i 0))) (tgV 2)) (
  sRet (mP fLst [.e (mP fMul [.e (mP fAbs [.v 2]), .e (mP fInt [.e (mP fGe [.e (mP fAbs [.v 2]), .e (mP fPow [.e (mK (.i 10)), .e (mK (.i 18))])])])]), .e (mP fAdd [.e (mP fAdd [.e (mP fMod [.v 2, .e (mK (.i 2305843009213693951))]), .e (mP fMul [.e (mK (.i 39373)), .v 1])]), .e (mK (.i 17))]), .e (mK (.i 0))]))
@[irreducible] noncomputable def fn__law_tape : Fn := mkFn false 3 m__law_tape
noncomputable def m_law : Ev → So :=
  sSeq (sAsg (mC fn__law_cells [.v 0, .e (mK (.i 2))]) (tgV 1)) (
  sSeq (sFor (mS sRng1 [.e (mP fLen [.v 1])]) (tgV 2) (
  sSeq (sAsg (mC fn__law_tape [.v 1, .v 2]) (tgV 3)) (
  sIf (mNot (mTe (mP fAll [.e (mLc false [4] (mS sRng1 [.e (mK (.i 1))]) (tgV 4) (mYes) (mCI fn__law_right 3 []))]))) (
  sRet (mK (.b false))) (sNx)))) (
  sRet (mK (.b true))))
@[irreducible] noncomputable def fn_law : Fn := mkFn false 5 m_law
structure Txt (K : PySem.W.Frag) (mg : Str → Option Value) where
  a__law_folded : Addr
  d__law_folded : FuncData
  F__law_folded : Fun K "_law_folded" "_law_folded" (top 21) a__law_folded d__law_folded
  b__law_folded : Binds K d__law_folded ["_law_script", "_law_many"] []
  m__law_folded : mg "_law_folded" = some (.ref a__law_folded)
  a__law_cells : Addr
  d__law_cells : FuncData
  F__law_cells : Fun K "_law_cells" "_law_cells" (top 29) a__law_cells d__law_cells
  b__law_cells : Binds K d__law_cells ["_law_script", "_law_many"] []
  m__law_cells : mg "_law_cells" = some (.ref a__law_cells)
  a__law_draw : Addr
  d__law_draw : FuncData
  F__law_draw : Fun K "_law_draw" "_law_draw" (top 20) a__law_draw d__law_draw
  b__law_draw : Binds K d__law_draw ["_law_tape_here", "_law_many"] []
  m__law_draw : mg "_law_draw" = some (.ref a__law_draw)
  a__law_ends_all : Addr
  d__law_ends_all : FuncData
  F__law_ends_all : Fun K "_law_ends_all" "_law_ends_all" (top 35) a__law_ends_all d__law_ends_all
  b__law_ends_all : Binds K d__law_ends_all ["_law_found"] []
  m__law_ends_all : mg "_law_ends_all" = some (.ref a__law_ends_all)
  a__law_of : Addr
  d__law_of : FuncData
  F__law_of : Fun K "_law_of" "_law_of" (top 23) a__law_of d__law_of
  b__law_of : Binds K d__law_of ["_law_tape_here", "_law_some"] []
  m__law_of : mg "_law_of" = some (.ref a__law_of)
  a__law_dealt : Addr
  d__law_dealt : FuncData
  F__law_dealt : Fun K "_law_dealt" "_law_dealt" (top 30) a__law_dealt d__law_dealt
  b__law_dealt : Binds K d__law_dealt ["_law_tape_here", "_law_folk_here", "_law_doors"] []
  m__law_dealt : mg "_law_dealt" = some (.ref a__law_dealt)
  a__law_folk : Addr
  d__law_folk : FuncData
  F__law_folk : Fun K "_law_folk" "_law_folk" (top 24) a__law_folk d__law_folk
  b__law_folk : Binds K d__law_folk ["_law_tape_here", "_law_many"] []
  m__law_folk : mg "_law_folk" = some (.ref a__law_folk)
  a__law_new : Addr
  d__law_new : FuncData
  F__law_new : Fun K "_law_new" "_law_new" (top 25) a__law_new d__law_new
  b__law_new : Binds K d__law_new ["_law_folk_here", "_law_doors"] []
  m__law_new : mg "_law_new" = some (.ref a__law_new)
  a__law_behind : Addr
  d__law_behind : FuncData
  F__law_behind : Fun K "_law_behind" "_law_behind" (top 27) a__law_behind d__law_behind
  b__law_behind : Binds K d__law_behind ["_law_house_here", "_law_hop"] []
  m__law_behind : mg "_law_behind" = some (.ref a__law_behind)
  a__law_steps : Addr
  d__law_steps : FuncData
  F__law_steps : Fun K "_law_steps" "_law_steps" (top 26) a__law_steps d__law_steps
  b__law_steps : Binds K d__law_steps ["_law_house_here"] []
  m__law_steps : mg "_law_steps" = some (.ref a__law_steps)
  a__law_walk : Addr
  d__law_walk : FuncData
  F__law_walk : Fun K "_law_walk" "_law_walk" (top 28) a__law_walk d__law_walk
  b__law_walk : Binds K d__law_walk ["_law_tape_here", "_law_house_here", "_law_most"] []
  m__law_walk : mg "_law_walk" = some (.ref a__law_walk)
  a__law_house : Addr
  d__law_house : FuncData
  F__law_house : Fun K "_law_house" "_law_house" (top 31) a__law_house d__law_house
  b__law_house : Binds K d__law_house ["_law_tape_here", "_law_most", "_law_doors"] []
  m__law_house : mg "_law_house" = some (.ref a__law_house)
  a__law_lot : Addr
  d__law_lot : FuncData
  F__law_lot : Fun K "_law_lot" "_law_lot" (top 34) a__law_lot d__law_lot
  b__law_lot : Binds K d__law_lot ["_law_house_here"] []
  m__law_lot : mg "_law_lot" = some (.ref a__law_lot)
  a__law_same : Addr
  d__law_same : FuncData
  F__law_same : Fun K "_law_same" "_law_same" (top 22) a__law_same d__law_same
  b__law_same : Binds K d__law_same ["_law_found", "_law_due"] []
  m__law_same : mg "_law_same" = some (.ref a__law_same)
  a__law_seen_by : Addr
  d__law_seen_by : FuncData
  F__law_seen_by : Fun K "_law_seen_by" "_law_seen_by" (top 32) a__law_seen_by d__law_seen_by
  b__law_seen_by : Binds K d__law_seen_by ["_law_house_here", "_law_room"] []
  m__law_seen_by : mg "_law_seen_by" = some (.ref a__law_seen_by)
  a__law_unwell : Addr
  d__law_unwell : FuncData
  F__law_unwell : Fun K "_law_unwell" "_law_unwell" (top 33) a__law_unwell d__law_unwell
  b__law_unwell : Binds K d__law_unwell ["_law_house_here"] []
  m__law_unwell : mg "_law_unwell" = some (.ref a__law_unwell)
  a_made : Addr
  d_made : FuncData
  F_made : Fun K "made" "made" (top 3) a_made d_made
  b_made : Binds K d_made ["house"] []
  m_made : mg "made" = some (.ref a_made)
  a_moved : Addr
  d_moved : FuncData
  F_moved : Fun K "moved" "moved" (top 10) a_moved d_moved
  b_moved : Binds K d_moved ["rooms", "weight", "begin", "end"] []
  m_moved : mg "moved" = some (.ref a_moved)
  a_way_let : Addr
  d_way_let : FuncData
  F_way_let : Fun K "way_let" "way_let" (top 7) a_way_let d_way_let
  b_way_let : Binds K d_way_let ["house", "weight", "door"] []
  m_way_let : mg "way_let" = some (.ref a_way_let)
  a_way : Addr
  d_way : FuncData
  F_way : Fun K "way" "way" (top 9) a_way d_way
  b_way : Binds K d_way ["house", "going"] []
  m_way : mg "way" = some (.ref a_way)
  a_gone : Addr
  d_gone : FuncData
  F_gone : Fun K "gone" "gone" (top 11) a_gone d_gone
  b_gone : Binds K d_gone ["house", "going"] []
  m_gone : mg "gone" = some (.ref a_gone)
  a_may_go : Addr
  d_may_go : FuncData
  F_may_go : Fun K "may_go" "may_go" (top 8) a_may_go d_may_go
  b_may_go : Binds K d_may_go ["house"] []
  m_may_go : mg "may_go" = some (.ref a_may_go)
  a_is_end : Addr
  d_is_end : FuncData
  F_is_end : Fun K "is_end" "is_end" (top 13) a_is_end d_is_end
  b_is_end : Binds K d_is_end ["house"] []
  m_is_end : mg "is_end" = some (.ref a_is_end)
  a_is_sorted : Addr
  d_is_sorted : FuncData
  F_is_sorted : Fun K "is_sorted" "is_sorted" (top 14) a_is_sorted d_is_sorted
  b_is_sorted : Binds K d_is_sorted ["house"] []
  m_is_sorted : mg "is_sorted" = some (.ref a_is_sorted)
  a_witnesses : Addr
  d_witnesses : FuncData
  F_witnesses : Fun K "witnesses" "witnesses" (top 15) a_witnesses d_witnesses
  b_witnesses : Binds K d_witnesses ["house", "room"] []
  m_witnesses : mg "witnesses" = some (.ref a_witnesses)
  a_unwell : Addr
  d_unwell : FuncData
  F_unwell : Fun K "unwell" "unwell" (top 16) a_unwell d_unwell
  b_unwell : Binds K d_unwell ["house"] []
  m_unwell : mg "unwell" = some (.ref a_unwell)
  a_is_well : Addr
  d_is_well : FuncData
  F_is_well : Fun K "is_well" "is_well" (top 17) a_is_well d_is_well
  b_is_well : Binds K d_is_well ["house"] []
  m_is_well : mg "is_well" = some (.ref a_is_well)
  a__law_right : Addr
  d__law_right : FuncData
  F__law_right : Fun K "_law_right" "_law_right" (top 36) a__law_right d__law_right
  b__law_right : Binds K d__law_right ["_law_tape_here"] []
  m__law_right : mg "_law_right" = some (.ref a__law_right)
  a__law_tape : Addr
  d__law_tape : FuncData
  F__law_tape : Fun K "_law_tape" "_law_tape" (top 19) a__law_tape d__law_tape
  b__law_tape : Binds K d__law_tape ["_law_script", "_law_k"] []
  m__law_tape : mg "_law_tape" = some (.ref a__law_tape)
  a_law : Addr
  d_law : FuncData
  F_law : Fun K "law" "law" (top 37) a_law d_law
  b_law : Binds K d_law ["_law_script"] []
  m_law : mg "law" = some (.ref a_law)
  z_abs : mg "abs" = none
  z_all : mg "all" = none
  z_bool : mg "bool" = none
  z_dict : mg "dict" = none
  z_enumerate : mg "enumerate" = none
  z_int : mg "int" = none
  z_isinstance : mg "isinstance" = none
  z_len : mg "len" = none
  z_list : mg "list" = none
  z_max : mg "max" = none
  z_min : mg "min" = none
  z_range : mg "range" = none
  z_sorted : mg "sorted" = none
  z_str : mg "str" = none
  z_tuple : mg "tuple" = none
  z_zip : mg "zip" = none
  t_BACK : Nat
  g_BACK : mg "BACK" = some (.str (PySem.Str.ofString "back") t_BACK)
  t_FORTH : Nat
  g_FORTH : mg "FORTH" = some (.str (PySem.Str.ofString "forth") t_FORTH)
section
variable {P : Program} {w : World} {K : PySem.W.Frag} {mg : Str → Option Value} {base : Heap}
abbrev N__law_folded : List Str := ["_law_script", "_law_many", "_law_cells_here", "_law_k", "_law_cell"]
theorem sc__law_folded : FnScope N__law_folded ["_law_script", "_law_many"] (defScope (top 21)) := ⟨rfl, rfl, rfl, by decide +kernel, rfl, by decide +kernel, by decide +kernel⟩
theorem ok__law_folded (T : Txt K mg) : Y.FnOk P w K mg base (L2.CX P w) 1 T.a__law_folded T.d__law_folded ["_law_script", "_law_many"] (spY K (clK K) false 2 fn__law_folded) := by
  unfold fn__law_folded
  exact fn_ok T.F__law_folded sc__law_folded rfl rfl (by decide) fun cdv A outer s H E hr => show JB _ _ _ _ _ m__law_folded from
      jb_c (js_set (i := 2) sc__law_folded.nd rfl (by first | exact Or.inl rfl | exact Or.inr rfl) (by decide) (je_callT call_list_of pr_list (by rfl) T.z_list (by rfl) (ja_c (jo_e (je_sl (jo_v 0 (pv 0)) .none (.some (je_v 1 (pv 1))))) (ja_n)))) (
      jb_c (js_for (passes_of rfl) rfl (ji_enum (by rfl) T.z_enumerate (jo_e (je_sl (jo_v 0 (pv 0)) (.some (je_v 1 (pv 1))) (.some (je_int))))) (pg_tupA rfl (pgs_cons (pg_name (i := 3) sc__law_folded.nd rfl (by first | exact Or.inl rfl | exact Or.inr rfl)) (pgs_cons (pg_name (i := 4) sc__law_folded.nd rfl (by first | exact Or.inl rfl | exact Or.inr rfl)) (pgs_nil)))) (tg_tup (tgs_c (tg_name (i := 3) (by decide)) (tgs_c (tg_name (i := 4) (by decide)) (tgs_nil))) rfl) (
      jb_1 (js_setI 2 (pv 2) (je_bin op_mod pr_mod (jo_v 3 (pv 3)) (jo_v 1 (pv 1))) (je_bin or_add pr_add (jo_e (je_ix ix_seq pr_ix (jo_v 2 (pv 2)) (jo_e (je_bin op_mod pr_mod (jo_v 3 (pv 3)) (jo_v 1 (pv 1)))) (fun _ _ => rfl))) (jo_e (je_bin or_mul pr_mul (jo_v 4 (pv 4)) (jo_e (je_bin or_add pr_add (jo_v 3 (pv 3)) (jo_e (je_int)))))))))) (
      jb_1 (js_retV 2 (pv 2))))
abbrev N__law_cells : List Str := ["_law_script", "_law_many"]
theorem sc__law_cells : FnScope N__law_cells ["_law_script", "_law_many"] (defScope (top 29)) := ⟨rfl, rfl, rfl, by decide +kernel, rfl, by decide +kernel, by decide +kernel⟩
theorem ok__law_cells (T : Txt K mg) : Y.FnOk P w K mg base (L2.CX P w) 2 T.a__law_cells T.d__law_cells ["_law_script", "_law_many"] (spY K (clK K) false 2 fn__law_cells) := by
  unfold fn__law_cells
  exact fn_ok T.F__law_cells sc__law_cells rfl rfl (by decide) fun cdv A outer s H E hr => show JB _ _ _ _ _ m__law_cells from
      jb_1 (js_ret (je_if (jt_cmp (or_ne hr.units) (nomark _) pr_ne (jo_v 0 (pv 0)) (jo_e (je_lst (ja_n)))) (je_call (ok__law_folded T) (hr.mono (by decide)) T.m__law_folded T.F__law_folded.kp T.b__law_folded (ja_c (jo_v 0 (pv 0)) (ja_c (jo_v 1 (pv 1)) (ja_n)))) (je_lst (ja_c (jo_e (je_int)) (ja_n)))))
abbrev N__law_draw : List Str := ["_law_tape_here", "_law_many", "_law_found", "_law_once", "_law_twice", "_law_wide"]
theorem sc__law_draw : FnScope N__law_draw ["_law_tape_here", "_law_many"] (defScope (top 20)) := ⟨rfl, rfl, rfl, by decide +kernel, rfl, by decide +kernel, by decide +kernel⟩
theorem ok__law_draw (T : Txt K mg) : Y.FnOk P w K mg base (L2.CX P w) 1 T.a__law_draw T.d__law_draw ["_law_tape_here", "_law_many"] (spY K (clK K) true 2 fn__law_draw) := by
  unfold fn__law_draw
  exact fn_ok T.F__law_draw sc__law_draw rfl rfl (by decide) fun cdv A outer s H E hr => show JB _ _ _ _ _ m__law_draw from
      jb_c (js_if (jt_cmp op_gt (nomark _) pr_gt (jo_e (je_ix ix_seq pr_ix (jo_v 0 (pv 0)) (jo_e (je_int)) (fun _ _ => rfl))) (jo_e (je_int))) (
      jb_c (js_set (i := 2) sc__law_draw.nd rfl (by first | exact Or.inl rfl | exact Or.inr rfl) (by decide) (je_bin op_mod pr_mod (jo_e (je_ix ix_seq pr_ix (jo_v 0 (pv 0)) (jo_e (je_int)) (fun _ _ => rfl))) (jo_v 1 (pv 1)))) (
      jb_c (js_setI 0 (pv 0) (je_int) (je_bin op_fdivW pr_div (jo_e (je_ix ix_seq pr_ix (jo_v 0 (pv 0)) (jo_e (je_int)) (fun _ _ => rfl))) (jo_v 1 (pv 1)))) (
      jb_1 (js_retV 2 (pv 2))))) (jb_nil)) (
      jb_c (js_setI 0 (pv 0) (je_int) (je_bin or_add pr_add (jo_e (je_ix ix_seq pr_ix (jo_v 0 (pv 0)) (jo_e (je_int)) (fun _ _ => rfl))) (jo_e (je_int)))) (
      jb_c (js_set (i := 3) sc__law_draw.nd rfl (by first | exact Or.inl rfl | exact Or.inr rfl) (by decide) (je_bin op_mod pr_mod (jo_e (je_bin op_pow pr_pow (jo_e (je_bin or_add pr_add (jo_e (je_ix ix_seq pr_ix (jo_v 0 (pv 0)) (jo_e (je_int)) (fun _ _ => rfl))) (jo_e (je_bin or_mul pr_mul (jo_e (je_int)) (jo_e (je_ix ix_seq pr_ix (jo_v 0 (pv 0)) (jo_e (je_int)) (fun _ _ => rfl))))))) (jo_e (je_int)))) (jo_e (je_int)))) (
      jb_c (js_set (i := 4) sc__law_draw.nd rfl (by first | exact Or.inl rfl | exact Or.inr rfl) (by decide) (je_bin op_mod pr_mod (jo_e (je_bin or_mul pr_mul (jo_e (je_bin or_add pr_add (jo_v 3 (pv 3)) (jo_e (je_ix ix_seq pr_ix (jo_v 0 (pv 0)) (jo_e (je_int)) (fun _ _ => rfl))))) (jo_e (je_bin or_add pr_add (jo_e (je_bin or_add pr_add (jo_e (je_bin op_mod pr_mod (jo_v 3 (pv 3)) (jo_e (je_int)))) (jo_e (je_int)))) (jo_e (je_ix ix_seq pr_ix (jo_v 0 (pv 0)) (jo_e (je_int)) (fun _ _ => rfl))))))) (jo_e (je_int)))) (
      jb_c (js_set (i := 5) sc__law_draw.nd rfl (by first | exact Or.inl rfl | exact Or.inr rfl) (by decide) (je_bin op_mod pr_mod (jo_e (je_bin or_add pr_add (jo_e (je_bin or_add pr_add (jo_e (je_bin op_fdivW pr_div (jo_e (je_ix ix_seq pr_ix (jo_v 0 (pv 0)) (jo_e (je_int)) (fun _ _ => rfl))) (jo_e (je_int)))) (jo_e (je_bin or_mul pr_mul (jo_v 4 (pv 4)) (jo_e (je_int)))))) (jo_e (je_ix ix_seq pr_ix (jo_v 0 (pv 0)) (jo_e (je_int)) (fun _ _ => rfl))))) (jo_e (je_int)))) (
      jb_1 (js_ret (je_bin op_mod pr_mod (jo_e (je_bin op_fdivW pr_div (jo_e (je_bin op_mod pr_mod (jo_e (je_bin or_add pr_add (jo_e (je_bin or_add pr_add (jo_e (je_bin or_mul pr_mul (jo_v 4 (pv 4)) (jo_e (je_int)))) (jo_e (je_bin or_mul pr_mul (jo_v 5 (pv 5)) (jo_e (je_int)))))) (jo_v 3 (pv 3)))) (jo_e (je_int)))) (jo_e (je_int)))) (jo_v 1 (pv 1)))))))))
abbrev N__law_ends_all : List Str := ["_law_found", "_law_left", "_law_turn", "_law_over", "_law_here", "_law_there"]
theorem sc__law_ends_all : FnScope N__law_ends_all ["_law_found"] (defScope (top 35)) := ⟨rfl, rfl, rfl, by decide +kernel, rfl, by decide +kernel, by decide +kernel⟩
theorem ok__law_ends_all (T : Txt K mg) : Y.FnOk P w K mg base (L2.CX P w) 1 T.a__law_ends_all T.d__law_ends_all ["_law_found"] (spY K (clK K) false 1 fn__law_ends_all) := by
  unfold fn__law_ends_all
  exact fn_ok T.F__law_ends_all sc__law_ends_all rfl rfl (by decide) fun cdv A outer s H E hr => show JB _ _ _ _ _ m__law_ends_all from
      jb_c (js_set (i := 1) sc__law_ends_all.nd rfl (by first | exact Or.inl rfl | exact Or.inr rfl) (by decide) (je_callT (call_dictPN (u65 hr) rfl) pr_dictPN (by rfl) T.z_dict (by rfl) (ja_c (jo_e (je_lcK (own := [("_law_here", 4)]) false rfl sc__law_ends_all.nd (pv 0) (blkOk_by (own := [("_law_here", 4)]) (N := N__law_ends_all) (sc := (defScope (top 35))) (by decide +kernel)) (fun _ _ _ _ _ => pg_name (i := 4) sc__law_ends_all.nd rfl (by first | exact Or.inl rfl | exact Or.inr rfl)) (tg_name (i := 4) (by decide)) (tw_name (i := 4) (by decide)) (fun _ _ _ _ _ => jts_nil) (fun _ _ _ _ _ => je_tup (ja_c (jo_v 4 (pv 4)) (ja_c (jo_e (je_fz (je_callT call_list_of pr_list (by rfl) T.z_list (by rfl) (ja_c (jo_e (je_kIx (u65 hr) (jo_v 0 (pv 0)) (jo_v 4 (pv 4)) (fun _ _ => rfl))) (ja_n))))) (ja_n)))))) (ja_n)))) (
      jb_c (js_for (passes_of rfl) rfl (ji_rng1 (by rfl) T.z_range (jo_e (je_int))) (pg_name (i := 2) sc__law_ends_all.nd rfl (by first | exact Or.inl rfl | exact Or.inr rfl)) (tg_name (i := 2) (by decide)) (
      jb_c (js_setLcK (i := 3) (own := [("_law_here", 4)]) false rfl sc__law_ends_all.nd rfl rfl (sw_true rfl rfl rfl (by decide +kernel)) (by decide) (pv 1) (blkOk_by (own := [("_law_here", 4)]) (N := N__law_ends_all) (sc := (defScope (top 35))) (by decide +kernel)) (fun _ _ _ _ _ => pg_name (i := 4) sc__law_ends_all.nd rfl (by first | exact Or.inl rfl | exact Or.inr rfl)) (tg_name (i := 4) (by decide)) (tw_name (i := 4) (by decide)) (fun _ _ _ _ _ => jts_one (jt_cmp (or_eq hr.units) (nomark _) pr_eq (jo_e (je_kIx (u65 hr) (jo_v 1 (pv 1)) (jo_v 4 (pv 4)) (fun _ _ => rfl))) (jo_e (je_lst (ja_n))))) (fun _ _ _ _ _ => je_v 4 (pv 4))) (
      jb_c (js_for (passes_of rfl) rfl (ji_seq (jo_v 3 (pv 3))) (pg_name (i := 4) sc__law_ends_all.nd rfl (by first | exact Or.inl rfl | exact Or.inr rfl)) (tg_name (i := 4) (by decide)) (
      jb_1 (js_kpop 1 (u65 hr) (pv 1) (je_v 4 (pv 4))))) (
      jb_1 (js_if (jt_cmp (or_ne hr.units) (nomark _) pr_ne (jo_v 3 (pv 3)) (jo_e (je_lst (ja_n)))) (
      jb_1 (js_set (i := 1) sc__law_ends_all.nd rfl (by first | exact Or.inl rfl | exact Or.inr rfl) (by decide) (je_callT (call_dictPN (u65 hr) rfl) pr_dictPN (by rfl) T.z_dict (by rfl) (ja_c (jo_e (je_lc (own := [("_law_here", 4)]) false rfl sc__law_ends_all.nd (ji_keysN (pv 1)) (blkOk_by (own := [("_law_here", 4)]) (N := N__law_ends_all) (sc := (defScope (top 35))) (by decide +kernel)) (fun _ _ _ _ _ => pg_name (i := 4) sc__law_ends_all.nd rfl (by first | exact Or.inl rfl | exact Or.inr rfl)) (tg_name (i := 4) (by decide)) (tw_name (i := 4) (by decide)) (fun _ _ _ _ _ => jts_nil) (fun _ _ _ _ _ => je_tup (ja_c (jo_v 4 (pv 4)) (ja_c (jo_e (je_fz (je_lc (own := [("_law_there", 5)]) false rfl sc__law_ends_all.nd (ji_seq (jo_e (je_kIx (u65 hr) (jo_v 1 (pv 1)) (jo_v 4 (pv 4)) (fun _ _ => rfl)))) (by refine blkOk_by (own := [("_law_there", 5)]) (N := N__law_ends_all) ?_; with_unfolding_all rfl) (fun _ _ _ _ _ => pg_name (i := 5) sc__law_ends_all.nd rfl (by first | exact Or.inl rfl | exact Or.inr rfl)) (tg_name (i := 5) (by decide)) (tw_name (i := 5) (by decide)) (fun _ _ _ _ _ => jts_one (jt_kIn (u65 hr) (jo_v 5 (pv 5)) (jo_v 1 (pv 1)))) (fun _ _ _ _ _ => je_v 5 (pv 5))))) (ja_n)))))) (ja_n))))) (jb_nil)))))) (
      jb_1 (js_ret (je_cmp (op_eqK0 hr.units) (nomark _) pr_eqK0 (jo_v 1 (pv 1)) (jo_e (je_dnew))))))
abbrev N__law_of : List Str := ["_law_tape_here", "_law_some"]
theorem sc__law_of : FnScope N__law_of ["_law_tape_here", "_law_some"] (defScope (top 23)) := ⟨rfl, rfl, rfl, by decide +kernel, rfl, by decide +kernel, by decide +kernel⟩
theorem ok__law_of (T : Txt K mg) : Y.FnOk P w K mg base (L2.CX P w) 2 T.a__law_of T.d__law_of ["_law_tape_here", "_law_some"] (spY K (clK K) true 2 fn__law_of) := by
  unfold fn__law_of
  exact fn_ok T.F__law_of sc__law_of rfl rfl (by decide) fun cdv A outer s H E hr => show JB _ _ _ _ _ m__law_of from
      jb_1 (js_ret (je_ix ix_seq pr_ix (jo_v 1 (pv 1)) (jo_e (je_callI (i := 0) (ok__law_draw T) (hr.mono (by decide)) T.m__law_draw T.F__law_draw.kp T.b__law_draw (ja_c (jo_v 0 (pv 0)) (ja_c (jo_e (je_callB cr_len pr_len (by rfl) T.z_len (by rfl) (ja_c (jo_v 1 (pv 1)) (ja_n)))) (ja_n))))) (fun _ _ => rfl)))
abbrev N__law_dealt : List Str := ["_law_tape_here", "_law_folk_here", "_law_doors", "_law_rooms", "_law_weight", "_law_some", "_law_memories", "_law_turn", "_law_k", "_law_memory", "_law_room"]
theorem sc__law_dealt : FnScope N__law_dealt ["_law_tape_here", "_law_folk_here", "_law_doors"] (defScope (top 30)) := ⟨rfl, rfl, rfl, by decide +kernel, rfl, by decide +kernel, by decide +kernel⟩
theorem ok__law_dealt (T : Txt K mg) : Y.FnOk P w K mg base (L2.CX P w) 3 T.a__law_dealt T.d__law_dealt ["_law_tape_here", "_law_folk_here", "_law_doors"] (spY K (clK K) true 3 fn__law_dealt) := by
  unfold fn__law_dealt
  exact fn_ok T.F__law_dealt sc__law_dealt rfl rfl (by decide) fun cdv A outer s H E hr => show JB _ _ _ _ _ m__law_dealt from
      jb_c (js_setLc (i := 3) (own := [("_law_turn", 7)]) true rfl sc__law_dealt.nd rfl rfl (sw_true rfl rfl rfl (by decide +kernel)) (by decide) (ji_rng1 (by rfl) T.z_range (jo_e (je_bin or_add pr_add (jo_v 2 (pv 2)) (jo_e (je_int))))) (blkOk_by (own := [("_law_turn", 7)]) (N := N__law_dealt) (sc := (defScope (top 30))) (by decide +kernel)) (fun _ _ _ _ _ => pg_name (i := 7) sc__law_dealt.nd rfl (by first | exact Or.inl rfl | exact Or.inr rfl)) (tg_name (i := 7) (by decide)) (tw_name (i := 7) (by decide)) (fun _ _ _ _ _ => jts_nil) (fun _ _ _ _ _ => je_lstO (jh_n))) (
      jb_c (js_for (passes_of rfl) rfl (ji_seq (jo_v 1 (pv 1))) (pg_name (i := 4) sc__law_dealt.nd rfl (by first | exact Or.inl rfl | exact Or.inr rfl)) (tg_name (i := 4) (by decide)) (
      jb_1 (js_apN (jpa_c (jpa_n 3 (pv 3)) (je_callI (i := 0) (ok__law_draw T) (hr.mono (by decide)) T.m__law_draw T.F__law_draw.kp T.b__law_draw (ja_c (jo_v 0 (pv 0)) (ja_c (jo_e (je_bin or_add pr_add (jo_v 2 (pv 2)) (jo_e (je_int)))) (ja_n)))) (fun _ _ => rfl)) (je_v 4 (pv 4))))) (
      jb_c (js_set (i := 5) sc__law_dealt.nd rfl (by first | exact Or.inl rfl | exact Or.inr rfl) (by decide) (je_bin or_add pr_add (jo_e (je_lst (ja_c (jo_e (je_int)) (ja_c (jo_e (je_bin op_pow pr_pow (jo_e (je_int)) (jo_e (je_int)))) (ja_n))))) (jo_e (je_bin or_mul pr_mul (jo_v 1 (pv 1)) (jo_e (je_int)))))) (
      jb_c (js_setLc (i := 6) (own := [("_law_k", 8)]) false rfl sc__law_dealt.nd rfl rfl (sw_true rfl rfl rfl (by decide +kernel)) (by decide) (ji_rng1 (by rfl) T.z_range (jo_v 2 (pv 2))) (blkOk_by (own := [("_law_k", 8)]) (N := N__law_dealt) (sc := (defScope (top 30))) (by decide +kernel)) (fun _ _ _ _ _ => pg_name (i := 8) sc__law_dealt.nd rfl (by first | exact Or.inl rfl | exact Or.inr rfl)) (tg_name (i := 8) (by decide)) (tw_name (i := 8) (by decide)) (fun _ _ _ _ _ => jts_nil) (fun _ _ _ _ _ => je_bin or_add pr_add (jo_e (je_callI (i := 0) (ok__law_of T) (hr.mono (by decide)) T.m__law_of T.F__law_of.kp T.b__law_of (ja_c (jo_v 0 (pv 0)) (ja_c (jo_v 5 (pv 5)) (ja_n))))) (jo_e (je_ix ix_seq pr_ix (jo_e (je_lst (ja_c (jo_e (je_int)) (ja_c (jo_e (je_int)) (ja_c (jo_e (je_int)) (ja_c (jo_e (je_un un_neg pr_neg (jo_e (je_int)))) (ja_n))))))) (jo_e (je_callI (i := 0) (ok__law_draw T) (hr.mono (by decide)) T.m__law_draw T.F__law_draw.kp T.b__law_draw (ja_c (jo_v 0 (pv 0)) (ja_c (jo_e (je_int)) (ja_n))))) (fun _ _ => rfl))))) (
      jb_c (js_setLc (i := 6) (own := [("_law_memory", 9)]) false rfl sc__law_dealt.nd rfl rfl (sw_true rfl rfl rfl (by decide +kernel)) (by decide) (ji_seq (jo_v 6 (pv 6))) (blkOk_by (own := [("_law_memory", 9)]) (N := N__law_dealt) (sc := (defScope (top 30))) (by decide +kernel)) (fun _ _ _ _ _ => pg_name (i := 9) sc__law_dealt.nd rfl (by first | exact Or.inl rfl | exact Or.inr rfl)) (tg_name (i := 9) (by decide)) (tw_name (i := 9) (by decide)) (fun _ _ _ _ _ => jts_nil) (fun _ _ _ _ _ => je_callB (call_max2 rfl) pr_max2 (by rfl) T.z_max (by rfl) (ja_c (jo_e (je_int)) (ja_c (jo_e (je_callB (call_min2 rfl) pr_min2 (by rfl) T.z_min (by rfl) (ja_c (jo_e (je_bin op_pow pr_pow (jo_e (je_int)) (jo_e (je_int)))) (ja_c (jo_v 9 (pv 9)) (ja_n))))) (ja_n))))) (
      jb_1 (js_ret (je_tup (ja_c (jo_e (je_callT call_tuple_of pr_tuple (by rfl) T.z_tuple (by rfl) (ja_c (jo_e (je_lc (own := [("_law_room", 10)]) false rfl sc__law_dealt.nd (ji_seq (jo_v 3 (pv 3))) (blkOk_by (own := [("_law_room", 10)]) (N := N__law_dealt) (sc := (defScope (top 30))) (by decide +kernel)) (fun _ _ _ _ _ => pg_name (i := 10) sc__law_dealt.nd rfl (by first | exact Or.inl rfl | exact Or.inr rfl)) (tg_name (i := 10) (by decide)) (tw_name (i := 10) (by decide)) (fun _ _ _ _ _ => jts_nil) (fun _ _ _ _ _ => je_callT call_tuple_of pr_tuple (by rfl) T.z_tuple (by rfl) (ja_c (jo_v 10 (pv 10)) (ja_n))))) (ja_n)))) (ja_c (jo_e (je_callT call_tuple_of pr_tuple (by rfl) T.z_tuple (by rfl) (ja_c (jo_v 6 (pv 6)) (ja_n)))) (ja_n))))))))))
abbrev N__law_folk : List Str := ["_law_tape_here", "_law_many", "_law_sort", "_law_last", "_law_found", "_law_span", "_law_k"]
theorem sc__law_folk : FnScope N__law_folk ["_law_tape_here", "_law_many"] (defScope (top 24)) := ⟨rfl, rfl, rfl, by decide +kernel, rfl, by decide +kernel, by decide +kernel⟩
theorem ok__law_folk (T : Txt K mg) : Y.FnOk P w K mg base (L2.CX P w) 2 T.a__law_folk T.d__law_folk ["_law_tape_here", "_law_many"] (spY K (clK K) true 2 fn__law_folk) := by
  unfold fn__law_folk
  exact fn_ok T.F__law_folk sc__law_folk rfl rfl (by decide) fun cdv A outer s H E hr => show JB _ _ _ _ _ m__law_folk from
      jb_c (js_par3 (i := 2) (j := 3) (l := 4) rfl sc__law_folk.nd rfl rfl rfl (by decide) (by decide) (by decide) rfl rfl rfl (by decide) (je_callI (i := 0) (ok__law_draw T) (hr.mono (by decide)) T.m__law_draw T.F__law_draw.kp T.b__law_draw (ja_c (jo_v 0 (pv 0)) (ja_c (jo_e (je_int)) (ja_n)))) (je_ix ix_seq pr_ix (jo_e (je_lst (ja_c (jo_e (je_int)) (ja_c (jo_e (je_int)) (ja_c (jo_e (je_bin op_sub pr_sub (jo_e (je_bin op_pow pr_pow (jo_e (je_int)) (jo_e (je_int)))) (jo_e (je_int)))) (ja_n)))))) (jo_e (je_callI (i := 0) (ok__law_draw T) (hr.mono (by decide)) T.m__law_draw T.F__law_draw.kp T.b__law_draw (ja_c (jo_v 0 (pv 0)) (ja_c (jo_e (je_int)) (ja_n))))) (fun _ _ => rfl)) (je_lst (ja_n)) rfl) (
      jb_c (js_set (i := 5) sc__law_folk.nd rfl (by first | exact Or.inl rfl | exact Or.inr rfl) (by decide) (je_ix ix_seq pr_ix (jo_e (je_lst (ja_c (jo_e (je_int)) (ja_c (jo_e (je_int)) (ja_c (jo_e (je_if (jt_cmp (or_eq hr.units) (nomark _) pr_eq (jo_v 3 (pv 3)) (jo_e (je_int))) (je_bin op_pow pr_pow (jo_e (je_int)) (jo_e (je_int))) (je_int))) (ja_n)))))) (jo_v 2 (pv 2)) (fun _ _ => rfl))) (
      jb_c (js_for (passes_of rfl) rfl (ji_rng1 (by rfl) T.z_range (jo_v 1 (pv 1))) (pg_name (i := 6) sc__law_folk.nd rfl (by first | exact Or.inl rfl | exact Or.inr rfl)) (tg_name (i := 6) (by decide)) (
      jb_c (js_set (i := 3) sc__law_folk.nd rfl (by first | exact Or.inl rfl | exact Or.inr rfl) (by decide) (je_bin or_add pr_add (jo_e (je_bin or_add pr_add (jo_v 3 (pv 3)) (jo_e (je_int)))) (jo_e (je_callI (i := 0) (ok__law_draw T) (hr.mono (by decide)) T.m__law_draw T.F__law_draw.kp T.b__law_draw (ja_c (jo_v 0 (pv 0)) (ja_c (jo_v 5 (pv 5)) (ja_n))))))) (
      jb_1 (js_app 4 (pv 4) (je_v 3 (pv 3)))))) (
      jb_1 (js_retV 4 (pv 4)))))
abbrev N__law_new : List Str := ["_law_folk_here", "_law_doors"]
theorem sc__law_new : FnScope N__law_new ["_law_folk_here", "_law_doors"] (defScope (top 25)) := ⟨rfl, rfl, rfl, by decide +kernel, rfl, by decide +kernel, by decide +kernel⟩
theorem ok__law_new (T : Txt K mg) : Y.FnOk P w K mg base (L2.CX P w) 1 T.a__law_new T.d__law_new ["_law_folk_here", "_law_doors"] (spY K (clK K) false 2 fn__law_new) := by
  unfold fn__law_new
  exact fn_ok T.F__law_new sc__law_new rfl rfl (by decide) fun cdv A outer s H E hr => show JB _ _ _ _ _ m__law_new from
      jb_1 (js_ret (je_tup (ja_c (jo_e (je_bin or_add pr_add (jo_e (je_tup (ja_c (jo_e (je_callT call_tuple_of pr_tuple (by rfl) T.z_tuple (by rfl) (ja_c (jo_e (je_callB (cr_sortD hr.units) pr_sorted (by rfl) T.z_sorted (by rfl) (ja_c (jo_v 0 (pv 0)) (ja_n)))) (ja_n)))) (ja_n)))) (jo_e (je_bin or_mul pr_mul (jo_e (je_tup (ja_c (jo_e (je_tup (ja_n))) (ja_n)))) (jo_v 1 (pv 1)))))) (ja_c (jo_e (je_bin or_mul pr_mul (jo_e (je_tup (ja_c (jo_e (je_int)) (ja_n)))) (jo_v 1 (pv 1)))) (ja_n)))))
abbrev N__law_behind : List Str := ["_law_house_here", "_law_hop", "_law_weight", "_law_door", "_law_rooms", "_law_doors", "_law_begin", "_law_end", "_law_one"]
theorem sc__law_behind : FnScope N__law_behind ["_law_house_here", "_law_hop"] (defScope (top 27)) := ⟨rfl, rfl, rfl, by decide +kernel, rfl, by decide +kernel, by decide +kernel⟩
theorem ok__law_behind (T : Txt K mg) : Y.FnOk P w K mg base (L2.CX P w) 1 T.a__law_behind T.d__law_behind ["_law_house_here", "_law_hop"] (spY K (clK K) false 2 fn__law_behind) := by
  unfold fn__law_behind
  exact fn_ok T.F__law_behind sc__law_behind rfl rfl (by decide) fun cdv A outer s H E hr => show JB _ _ _ _ _ m__law_behind from
      jb_c (js_asg (pg_tupA rfl (pgs_cons (pg_name (i := 2) sc__law_behind.nd rfl (by first | exact Or.inl rfl | exact Or.inr rfl)) (pgs_cons (pg_name (i := 3) sc__law_behind.nd rfl (by first | exact Or.inl rfl | exact Or.inr rfl)) (pgs_nil)))) (tg_tup (tgs_c (tg_name (i := 2) (by decide)) (tgs_c (tg_name (i := 3) (by decide)) (tgs_nil))) rfl) (je_v 1 (pv 1))) (
      jb_c (js_par2 (i := 4) (j := 5) rfl sc__law_behind.nd rfl rfl (by decide) rfl rfl (by decide) (je_callT call_list_of pr_list (by rfl) T.z_list (by rfl) (ja_c (jo_e (je_ix ix_seq pr_ix (jo_v 0 (pv 0)) (jo_e (je_int)) (fun _ _ => rfl))) (ja_n))) (je_ix ix_seq pr_ix (jo_v 0 (pv 0)) (jo_e (je_int)) (fun _ _ => rfl)) rfl) (
      jb_c (js_asg (pg_tupA rfl (pgs_cons (pg_name (i := 6) sc__law_behind.nd rfl (by first | exact Or.inl rfl | exact Or.inr rfl)) (pgs_cons (pg_name (i := 7) sc__law_behind.nd rfl (by first | exact Or.inl rfl | exact Or.inr rfl)) (pgs_nil)))) (tg_tup (tgs_c (tg_name (i := 6) (by decide)) (tgs_c (tg_name (i := 7) (by decide)) (tgs_nil))) rfl) (je_if (jt_cmp (or_in (u65 hr)) rfl pr_in (jo_v 2 (pv 2)) (jo_e (je_ix ix_seq pr_ix (jo_v 4 (pv 4)) (jo_e (je_bin op_sub pr_sub (jo_v 3 (pv 3)) (jo_e (je_int)))) (fun _ _ => rfl)))) (je_tup (ja_c (jo_e (je_bin op_sub pr_sub (jo_v 3 (pv 3)) (jo_e (je_int)))) (ja_c (jo_v 3 (pv 3)) (ja_n)))) (je_tup (ja_c (jo_v 3 (pv 3)) (ja_c (jo_e (je_bin op_sub pr_sub (jo_v 3 (pv 3)) (jo_e (je_int)))) (ja_n)))))) (
      jb_c (js_setI 4 (pv 4) (je_v 6 (pv 6)) (je_callT call_tuple_of pr_tuple (by rfl) T.z_tuple (by rfl) (ja_c (jo_e (je_lc (own := [("_law_one", 8)]) false rfl sc__law_behind.nd (ji_seq (jo_e (je_ix ix_seq pr_ix (jo_v 4 (pv 4)) (jo_v 6 (pv 6)) (fun _ _ => rfl)))) (blkOk_by (own := [("_law_one", 8)]) (N := N__law_behind) (sc := (defScope (top 27))) (by decide +kernel)) (fun _ _ _ _ _ => pg_name (i := 8) sc__law_behind.nd rfl (by first | exact Or.inl rfl | exact Or.inr rfl)) (tg_name (i := 8) (by decide)) (tw_name (i := 8) (by decide)) (fun _ _ _ _ _ => jts_one (jt_cmp (or_ne hr.units) (nomark _) pr_ne (jo_v 8 (pv 8)) (jo_v 2 (pv 2)))) (fun _ _ _ _ _ => je_v 8 (pv 8)))) (ja_n)))) (
      jb_c (js_setI 4 (pv 4) (je_v 7 (pv 7)) (je_callT call_tuple_of pr_tuple (by rfl) T.z_tuple (by rfl) (ja_c (jo_e (je_callB (cr_sortD hr.units) pr_sorted (by rfl) T.z_sorted (by rfl) (ja_c (jo_e (je_bin or_add pr_add (jo_e (je_ix ix_seq pr_ix (jo_v 4 (pv 4)) (jo_v 7 (pv 7)) (fun _ _ => rfl))) (jo_e (je_tup (ja_c (jo_v 2 (pv 2)) (ja_n)))))) (ja_n)))) (ja_n)))) (
      jb_1 (js_ret (je_tup (ja_c (jo_e (je_callT call_tuple_of pr_tuple (by rfl) T.z_tuple (by rfl) (ja_c (jo_v 4 (pv 4)) (ja_n)))) (ja_c (jo_e (je_bin or_add pr_add (jo_e (je_bin or_add pr_add (jo_e (je_sl (jo_v 5 (pv 5)) .none (.some (je_bin op_sub pr_sub (jo_v 3 (pv 3)) (jo_e (je_int)))))) (jo_e (je_tup (ja_c (jo_v 2 (pv 2)) (ja_n)))))) (jo_e (je_sl (jo_v 5 (pv 5)) (.some (je_v 3 (pv 3))) .none)))) (ja_n))))))))))
abbrev N__law_steps : List Str := ["_law_house_here", "_law_rooms", "_law_doors", "_law_found", "_law_k", "_law_memory", "_law_weight"]
theorem sc__law_steps : FnScope N__law_steps ["_law_house_here"] (defScope (top 26)) := ⟨rfl, rfl, rfl, by decide +kernel, rfl, by decide +kernel, by decide +kernel⟩
theorem ok__law_steps (T : Txt K mg) : Y.FnOk P w K mg base (L2.CX P w) 1 T.a__law_steps T.d__law_steps ["_law_house_here"] (spY K (clK K) false 1 fn__law_steps) := by
  unfold fn__law_steps
  exact fn_ok T.F__law_steps sc__law_steps rfl rfl (by decide) fun cdv A outer s H E hr => show JB _ _ _ _ _ m__law_steps from
      jb_c (js_asg (pg_tupA rfl (pgs_cons (pg_name (i := 1) sc__law_steps.nd rfl (by first | exact Or.inl rfl | exact Or.inr rfl)) (pgs_cons (pg_name (i := 2) sc__law_steps.nd rfl (by first | exact Or.inl rfl | exact Or.inr rfl)) (pgs_nil)))) (tg_tup (tgs_c (tg_name (i := 1) (by decide)) (tgs_c (tg_name (i := 2) (by decide)) (tgs_nil))) rfl) (je_v 0 (pv 0))) (
      jb_c (js_set (i := 3) sc__law_steps.nd rfl (by first | exact Or.inl rfl | exact Or.inr rfl) (by decide) (je_lst (ja_n))) (
      jb_c (js_for (passes_of rfl) rfl (ji_enum (by rfl) T.z_enumerate (jo_v 2 (pv 2))) (pg_tupA rfl (pgs_cons (pg_name (i := 4) sc__law_steps.nd rfl (by first | exact Or.inl rfl | exact Or.inr rfl)) (pgs_cons (pg_name (i := 5) sc__law_steps.nd rfl (by first | exact Or.inl rfl | exact Or.inr rfl)) (pgs_nil)))) (tg_tup (tgs_c (tg_name (i := 4) (by decide)) (tgs_c (tg_name (i := 5) (by decide)) (tgs_nil))) rfl) (
      jb_c (js_set (i := 3) sc__law_steps.nd rfl (by first | exact Or.inl rfl | exact Or.inr rfl) (by decide) (je_bin or_add pr_add (jo_v 3 (pv 3)) (jo_e (je_lc (own := [("_law_weight", 6)]) false rfl sc__law_steps.nd (ji_seq (jo_e (je_ix ix_seq pr_ix (jo_v 1 (pv 1)) (jo_v 4 (pv 4)) (fun _ _ => rfl)))) (blkOk_by (own := [("_law_weight", 6)]) (N := N__law_steps) (sc := (defScope (top 26))) (by decide +kernel)) (fun _ _ _ _ _ => pg_name (i := 6) sc__law_steps.nd rfl (by first | exact Or.inl rfl | exact Or.inr rfl)) (tg_name (i := 6) (by decide)) (tw_name (i := 6) (by decide)) (fun _ _ _ _ _ => jts_one (jt_cmp op_gt (nomark _) pr_gt (jo_v 6 (pv 6)) (jo_v 5 (pv 5)))) (fun _ _ _ _ _ => je_tup (ja_c (jo_v 6 (pv 6)) (ja_c (jo_e (je_bin or_add pr_add (jo_v 4 (pv 4)) (jo_e (je_int)))) (ja_n)))))))) (
      jb_1 (js_set (i := 3) sc__law_steps.nd rfl (by first | exact Or.inl rfl | exact Or.inr rfl) (by decide) (je_bin or_add pr_add (jo_v 3 (pv 3)) (jo_e (je_lc (own := [("_law_weight", 6)]) false rfl sc__law_steps.nd (ji_seq (jo_e (je_ix ix_seq pr_ix (jo_v 1 (pv 1)) (jo_e (je_bin or_add pr_add (jo_v 4 (pv 4)) (jo_e (je_int)))) (fun _ _ => rfl)))) (blkOk_by (own := [("_law_weight", 6)]) (N := N__law_steps) (sc := (defScope (top 26))) (by decide +kernel)) (fun _ _ _ _ _ => pg_name (i := 6) sc__law_steps.nd rfl (by first | exact Or.inl rfl | exact Or.inr rfl)) (tg_name (i := 6) (by decide)) (tw_name (i := 6) (by decide)) (fun _ _ _ _ _ => jts_one (jt_cmp op_lt (nomark _) pr_lt (jo_v 6 (pv 6)) (jo_v 5 (pv 5)))) (fun _ _ _ _ _ => je_tup (ja_c (jo_v 6 (pv 6)) (ja_c (jo_e (je_bin or_add pr_add (jo_v 4 (pv 4)) (jo_e (je_int)))) (ja_n))))))))))) (
      jb_1 (js_ret (je_callB (cr_sortD hr.units) pr_sorted (by rfl) T.z_sorted (by rfl) (ja_c (jo_v 3 (pv 3)) (ja_n)))))))
abbrev N__law_walk : List Str := ["_law_tape_here", "_law_house_here", "_law_most", "_law_hops", "_law_turn", "_law_some"]
theorem sc__law_walk : FnScope N__law_walk ["_law_tape_here", "_law_house_here", "_law_most"] (defScope (top 28)) := ⟨rfl, rfl, rfl, by decide +kernel, rfl, by decide +kernel, by decide +kernel⟩
theorem ok__law_walk (T : Txt K mg) : Y.FnOk P w K mg base (L2.CX P w) 3 T.a__law_walk T.d__law_walk ["_law_tape_here", "_law_house_here", "_law_most"] (spY K (clK K) true 3 fn__law_walk) := by
  unfold fn__law_walk
  exact fn_ok T.F__law_walk sc__law_walk rfl rfl (by decide) fun cdv A outer s H E hr => show JB _ _ _ _ _ m__law_walk from
      jb_c (js_set (i := 3) sc__law_walk.nd rfl (by first | exact Or.inl rfl | exact Or.inr rfl) (by decide) (je_lst (ja_n))) (
      jb_c (js_for (passes_of rfl) rfl (ji_rng1 (by rfl) T.z_range (jo_v 2 (pv 2))) (pg_name (i := 4) sc__law_walk.nd rfl (by first | exact Or.inl rfl | exact Or.inr rfl)) (tg_name (i := 4) (by decide)) (
      jb_c (js_set (i := 5) sc__law_walk.nd rfl (by first | exact Or.inl rfl | exact Or.inr rfl) (by decide) (je_call (ok__law_steps T) (hr.mono (by decide)) T.m__law_steps T.F__law_steps.kp T.b__law_steps (ja_c (jo_v 1 (pv 1)) (ja_n)))) (
      jb_1 (js_if (jt_cmp (or_ne hr.units) (nomark _) pr_ne (jo_v 5 (pv 5)) (jo_e (je_lst (ja_n)))) (
      jb_c (js_app 3 (pv 3) (je_callI (i := 0) (ok__law_of T) (hr.mono (by decide)) T.m__law_of T.F__law_of.kp T.b__law_of (ja_c (jo_v 0 (pv 0)) (ja_c (jo_v 5 (pv 5)) (ja_n))))) (
      jb_1 (js_set (i := 1) sc__law_walk.nd rfl (by first | exact Or.inl rfl | exact Or.inr rfl) (by decide) (je_call (ok__law_behind T) (hr.mono (by decide)) T.m__law_behind T.F__law_behind.kp T.b__law_behind (ja_c (jo_v 1 (pv 1)) (ja_c (jo_e (je_ix ix_seq pr_ix (jo_v 3 (pv 3)) (jo_e (je_un un_neg pr_neg (jo_e (je_int)))) (fun _ _ => rfl))) (ja_n))))))) (jb_nil))))) (
      jb_1 (js_ret (je_tup (ja_c (jo_v 1 (pv 1)) (ja_c (jo_v 3 (pv 3)) (ja_n)))))))
abbrev N__law_house : List Str := ["_law_tape_here", "_law_most", "_law_doors", "_law_folk_here", "_law_many"]
theorem sc__law_house : FnScope N__law_house ["_law_tape_here", "_law_most", "_law_doors"] (defScope (top 31)) := ⟨rfl, rfl, rfl, by decide +kernel, rfl, by decide +kernel, by decide +kernel⟩
theorem ok__law_house (T : Txt K mg) : Y.FnOk P w K mg base (L2.CX P w) 4 T.a__law_house T.d__law_house ["_law_tape_here", "_law_most", "_law_doors"] (spY K (clK K) true 3 fn__law_house) := by
  unfold fn__law_house
  exact fn_ok T.F__law_house sc__law_house rfl rfl (by decide) fun cdv A outer s H E hr => show JB _ _ _ _ _ m__law_house from
      jb_c (js_par2 (i := 3) (j := 4) rfl sc__law_house.nd rfl rfl (by decide) rfl rfl (by decide) (je_callI (i := 0) (ok__law_folk T) (hr.mono (by decide)) T.m__law_folk T.F__law_folk.kp T.b__law_folk (ja_c (jo_v 0 (pv 0)) (ja_c (jo_e (je_callI (i := 0) (ok__law_draw T) (hr.mono (by decide)) T.m__law_draw T.F__law_draw.kp T.b__law_draw (ja_c (jo_v 0 (pv 0)) (ja_c (jo_e (je_bin or_add pr_add (jo_v 1 (pv 1)) (jo_e (je_int)))) (ja_n))))) (ja_n)))) (je_bin or_add pr_add (jo_e (je_int)) (jo_e (je_callI (i := 0) (ok__law_draw T) (hr.mono (by decide)) T.m__law_draw T.F__law_draw.kp T.b__law_draw (ja_c (jo_v 0 (pv 0)) (ja_c (jo_v 2 (pv 2)) (ja_n)))))) rfl) (
      jb_c (js_if (jt_cmp (or_eq hr.units) (nomark _) pr_eq (jo_e (je_callI (i := 0) (ok__law_draw T) (hr.mono (by decide)) T.m__law_draw T.F__law_draw.kp T.b__law_draw (ja_c (jo_v 0 (pv 0)) (ja_c (jo_e (je_int)) (ja_n))))) (jo_e (je_int))) (
      jb_1 (js_ret (je_ix ix_seq pr_ix (jo_e (je_callI (i := 0) (ok__law_walk T) (hr.mono (by decide)) T.m__law_walk T.F__law_walk.kp T.b__law_walk (ja_c (jo_v 0 (pv 0)) (ja_c (jo_e (je_call (ok__law_new T) (hr.mono (by decide)) T.m__law_new T.F__law_new.kp T.b__law_new (ja_c (jo_v 3 (pv 3)) (ja_c (jo_v 4 (pv 4)) (ja_n))))) (ja_c (jo_e (je_callI (i := 0) (ok__law_draw T) (hr.mono (by decide)) T.m__law_draw T.F__law_draw.kp T.b__law_draw (ja_c (jo_v 0 (pv 0)) (ja_c (jo_e (je_int)) (ja_n))))) (ja_n)))))) (jo_e (je_int)) (fun _ _ => rfl)))) (jb_nil)) (
      jb_1 (js_ret (je_callI (i := 0) (ok__law_dealt T) (hr.mono (by decide)) T.m__law_dealt T.F__law_dealt.kp T.b__law_dealt (ja_c (jo_v 0 (pv 0)) (ja_c (jo_v 3 (pv 3)) (ja_c (jo_v 4 (pv 4)) (ja_n))))))))
abbrev N__law_lot : List Str := ["_law_house_here", "_law_found", "_law_layer", "_law_turn", "_law_further", "_law_here", "_law_there", "_law_hop"]
theorem sc__law_lot : FnScope N__law_lot ["_law_house_here"] (defScope (top 34)) := ⟨rfl, rfl, rfl, by decide +kernel, rfl, by decide +kernel, by decide +kernel⟩
theorem ok__law_lot (T : Txt K mg) : Y.FnOk P w K mg base (L2.CX P w) 2 T.a__law_lot T.d__law_lot ["_law_house_here"] (spY K (clK K) false 1 fn__law_lot) := by
  unfold fn__law_lot
  exact fn_ok T.F__law_lot sc__law_lot rfl rfl (by decide) fun cdv A outer s H E hr => show JB _ _ _ _ _ m__law_lot from
      jb_c (js_par2 (i := 1) (j := 2) rfl sc__law_lot.nd rfl rfl (by decide) rfl rfl (by decide) (je_kd1 (u65 hr) (je_v 0 (pv 0)) pe_non (fun _ _ _ => rfl) (fun _ => .n) rfl) (je_lst (ja_c (jo_v 0 (pv 0)) (ja_n))) rfl) (
      jb_c (js_for (passes_of rfl) rfl (ji_rng1 (by rfl) T.z_range (jo_e (je_int))) (pg_name (i := 3) sc__law_lot.nd rfl (by first | exact Or.inl rfl | exact Or.inr rfl)) (tg_name (i := 3) (by decide)) (
      jb_c (js_set (i := 4) sc__law_lot.nd rfl (by first | exact Or.inl rfl | exact Or.inr rfl) (by decide) (je_lst (ja_n))) (
      jb_c (js_for (passes_of rfl) rfl (ji_seq (jo_v 2 (pv 2))) (pg_name (i := 5) sc__law_lot.nd rfl (by first | exact Or.inl rfl | exact Or.inr rfl)) (tg_name (i := 5) (by decide)) (
      jb_c (js_asgK (fun tk => pg_kixK (cl := clK K) (u65 hr) (pv 1) (je_v 5 (pv 5)) (fun _ => rfl) tk) (tg_kix) (je_fz (je_lc (own := [("_law_hop", 7)]) false rfl sc__law_lot.nd (ji_seq (jo_e (je_call (ok__law_steps T) (hr.mono (by decide)) T.m__law_steps T.F__law_steps.kp T.b__law_steps (ja_c (jo_v 5 (pv 5)) (ja_n))))) (blkOk_by (own := [("_law_hop", 7)]) (N := N__law_lot) (sc := (defScope (top 34))) (by decide +kernel)) (fun _ _ _ _ _ => pg_name (i := 7) sc__law_lot.nd rfl (by first | exact Or.inl rfl | exact Or.inr rfl)) (tg_name (i := 7) (by decide)) (tw_name (i := 7) (by decide)) (fun _ _ _ _ _ => jts_nil) (fun _ _ _ _ _ => je_call (ok__law_behind T) (hr.mono (by decide)) T.m__law_behind T.F__law_behind.kp T.b__law_behind (ja_c (jo_v 5 (pv 5)) (ja_c (jo_v 7 (pv 7)) (ja_n))))))) (
      jb_1 (js_for (passes_of rfl) rfl (ji_seq (jo_e (je_kIx (u65 hr) (jo_v 1 (pv 1)) (jo_v 5 (pv 5)) (fun _ _ => rfl)))) (pg_name (i := 6) sc__law_lot.nd rfl (by first | exact Or.inl rfl | exact Or.inr rfl)) (tg_name (i := 6) (by decide)) (
      jb_1 (js_if (jt_kNin (u65 hr) (jo_v 6 (pv 6)) (jo_v 1 (pv 1))) (
      jb_c (js_asgK (fun tk => pg_kixK (cl := clK K) (u65 hr) (pv 1) (je_v 6 (pv 6)) (fun _ => rfl) tk) (tg_kix) (je_non)) (
      jb_1 (js_app 4 (pv 4) (je_v 6 (pv 6))))) (jb_nil))))))) (
      jb_1 (js_set (i := 2) sc__law_lot.nd rfl (by first | exact Or.inl rfl | exact Or.inr rfl) (by decide) (je_v 4 (pv 4))))))) (
      jb_1 (js_retV 1 (pv 1))))
abbrev N__law_same : List Str := ["_law_found", "_law_due", "_law_one", "_law_other"]
theorem sc__law_same : FnScope N__law_same ["_law_found", "_law_due"] (defScope (top 22)) := ⟨rfl, rfl, rfl, by decide +kernel, rfl, by decide +kernel, by decide +kernel⟩
theorem ok__law_same (T : Txt K mg) : ∀ d : Nat, Y.FnOk P w K mg base (L2.CX P w) (d + 1) T.a__law_same T.d__law_same ["_law_found", "_law_due"] (spY K (clK K) false 2 (fn__law_same d))
  | 0 => by
    rw [fn__law_same_0]
    exact fn_no T.F__law_same sc__law_same
  | d + 1 => by
    have ih := ok__law_same T d
    rw [fn__law_same_s]
    exact fn_ok (k := d + 1) T.F__law_same sc__law_same rfl rfl (by decide) fun cdv A outer s H E hr => show JB _ _ _ _ _ (m__law_same (fn__law_same d)) from
      jb_c (js_if (jt_val (je_isi2 (by decide) (by decide) (by rfl) T.z_isinstance (by rfl) T.z_list (by rfl) (by rfl) T.z_tuple (by rfl) (jo_v 1 (pv 1)))) (
      jb_c (js_if (jt_w (jw_or (jt_cmp (or_ne hr.units) (nomark _) pr_ne (jo_e (je_isi1 (by decide) (by rfl) T.z_isinstance (by rfl) T.z_list (by rfl) (jo_v 0 (pv 0)))) (jo_e (je_isi1 (by decide) (by rfl) T.z_isinstance (by rfl) T.z_list (by rfl) (jo_v 1 (pv 1))))) (jw_or1 (jt_cmp (or_ne hr.units) (nomark _) pr_ne (jo_e (je_isi1 (by decide) (by rfl) T.z_isinstance (by rfl) T.z_tuple (by rfl) (jo_v 0 (pv 0)))) (jo_e (je_isi1 (by decide) (by rfl) T.z_isinstance (by rfl) T.z_tuple (by rfl) (jo_v 1 (pv 1)))))))) (
      jb_1 (js_ret (je_bl))) (jb_nil)) (
      jb_1 (js_ret (je_and (je_cmp (or_eq hr.units) (nomark _) pr_eq (jo_e (je_callB cr_len pr_len (by rfl) T.z_len (by rfl) (ja_c (jo_v 0 (pv 0)) (ja_n)))) (jo_e (je_callB cr_len pr_len (by rfl) T.z_len (by rfl) (ja_c (jo_v 1 (pv 1)) (ja_n))))) (je_one (je_callB (cr_all rfl) pr_all (by rfl) T.z_all (by rfl) (ja_c (jo_e (je_lc (own := [("_law_one", 2), ("_law_other", 3)]) false rfl sc__law_same.nd (ji_zip (by rfl) T.z_zip (jo_v 0 (pv 0)) (jo_v 1 (pv 1))) (blkOk_by (own := [("_law_one", 2), ("_law_other", 3)]) (N := N__law_same) (sc := (defScope (top 22))) (by decide +kernel)) (fun _ _ _ _ _ => pg_tupA rfl (pgs_cons (pg_name (i := 2) sc__law_same.nd rfl (by first | exact Or.inl rfl | exact Or.inr rfl)) (pgs_cons (pg_name (i := 3) sc__law_same.nd rfl (by first | exact Or.inl rfl | exact Or.inr rfl)) (pgs_nil)))) (tg_tup (tgs_c (tg_name (i := 2) (by decide)) (tgs_c (tg_name (i := 3) (by decide)) (tgs_nil))) rfl) (tw_tup (tws_c (tw_name (i := 2) (by decide)) (tws_c (tw_name (i := 3) (by decide)) (tws_nil)))) (fun _ _ _ _ _ => jts_nil) (fun _ _ _ _ _ => je_call ih (hr.mono (by omega)) T.m__law_same T.F__law_same.kp T.b__law_same (ja_c (jo_v 2 (pv 2)) (ja_c (jo_v 3 (pv 3)) (ja_n)))))) (ja_n)))))))) (jb_nil)) (
      jb_c (js_if (jt_w (jw_or (jt_cmp or_is (nomark _) pr_is (jo_v 1 (pv 1)) (jo_e (je_non))) (jw_or1 (jt_val (je_isi2 (by decide) (by decide) (by rfl) T.z_isinstance (by rfl) T.z_str (by rfl) (by rfl) T.z_bool (by rfl) (jo_v 1 (pv 1))))))) (
      jb_1 (js_ret (je_and (je_cmp (or_eq hr.units) (nomark _) pr_eq (jo_e (je_isi1 (by decide) (by rfl) T.z_isinstance (by rfl) T.z_bool (by rfl) (jo_v 0 (pv 0)))) (jo_e (je_isi1 (by decide) (by rfl) T.z_isinstance (by rfl) T.z_bool (by rfl) (jo_v 1 (pv 1))))) (je_one (je_cmp (or_eq hr.units) (nomark _) pr_eq (jo_v 0 (pv 0)) (jo_v 1 (pv 1))))))) (jb_nil)) (
      jb_1 (js_ret (je_and (je_isi1 (by decide) (by rfl) T.z_isinstance (by rfl) T.z_int (by rfl) (jo_v 0 (pv 0))) (je_and (je_not (je_isi1 (by decide) (by rfl) T.z_isinstance (by rfl) T.z_bool (by rfl) (jo_v 0 (pv 0)))) (je_one (je_cmp (or_eq hr.units) (nomark _) pr_eq (jo_v 0 (pv 0)) (jo_v 1 (pv 1)))))))))
abbrev N__law_seen_by : List Str := ["_law_house_here", "_law_room", "_law_before", "_law_behind_here", "_law_weight"]
theorem sc__law_seen_by : FnScope N__law_seen_by ["_law_house_here", "_law_room"] (defScope (top 32)) := ⟨rfl, rfl, rfl, by decide +kernel, rfl, by decide +kernel, by decide +kernel⟩
theorem ok__law_seen_by (T : Txt K mg) : Y.FnOk P w K mg base (L2.CX P w) 1 T.a__law_seen_by T.d__law_seen_by ["_law_house_here", "_law_room"] (spY K (clK K) false 2 fn__law_seen_by) := by
  unfold fn__law_seen_by
  exact fn_ok T.F__law_seen_by sc__law_seen_by rfl rfl (by decide) fun cdv A outer s H E hr => show JB _ _ _ _ _ m__law_seen_by from
      jb_c (js_asg (pg_tupA rfl (pgs_cons (pg_name (i := 2) sc__law_seen_by.nd rfl (by first | exact Or.inl rfl | exact Or.inr rfl)) (pgs_cons (pg_name (i := 3) sc__law_seen_by.nd rfl (by first | exact Or.inl rfl | exact Or.inr rfl)) (pgs_nil)))) (tg_tup (tgs_c (tg_name (i := 2) (by decide)) (tgs_c (tg_name (i := 3) (by decide)) (tgs_nil))) rfl) (je_tup (ja_c (jo_e (je_ix ix_seq pr_ix (jo_e (je_ix ix_seq pr_ix (jo_v 0 (pv 0)) (jo_e (je_int)) (fun _ _ => rfl))) (jo_e (je_bin op_sub pr_sub (jo_v 1 (pv 1)) (jo_e (je_int)))) (fun _ _ => rfl))) (ja_c (jo_e (je_ix ix_seq pr_ix (jo_e (je_ix ix_seq pr_ix (jo_v 0 (pv 0)) (jo_e (je_int)) (fun _ _ => rfl))) (jo_v 1 (pv 1)) (fun _ _ => rfl))) (ja_n))))) (
      jb_c (js_if (jt_not (jt_cmp op_gt (nomark _) pr_gt (jo_v 2 (pv 2)) (jo_v 3 (pv 3)))) (
      jb_1 (js_ret (je_non))) (jb_nil)) (
      jb_1 (js_ret (je_lc (own := [("_law_weight", 4)]) false rfl sc__law_seen_by.nd (ji_seq (jo_e (je_ix ix_seq pr_ix (jo_e (je_ix ix_seq pr_ix (jo_v 0 (pv 0)) (jo_e (je_int)) (fun _ _ => rfl))) (jo_v 1 (pv 1)) (fun _ _ => rfl)))) (blkOk_by (own := [("_law_weight", 4)]) (N := N__law_seen_by) (sc := (defScope (top 32))) (by decide +kernel)) (fun _ _ _ _ _ => pg_name (i := 4) sc__law_seen_by.nd rfl (by first | exact Or.inl rfl | exact Or.inr rfl)) (tg_name (i := 4) (by decide)) (tw_name (i := 4) (by decide)) (fun _ _ _ _ _ => jts_one (jt_not (jt_chain op_lt op_lt pr_lt pr_lt (jo_v 3 (pv 3)) (jo_v 4 (pv 4)) (jo_v 2 (pv 2))))) (fun _ _ _ _ _ => je_v 4 (pv 4))))))
abbrev N__law_unwell : List Str := ["_law_house_here", "_law_room"]
theorem sc__law_unwell : FnScope N__law_unwell ["_law_house_here"] (defScope (top 33)) := ⟨rfl, rfl, rfl, by decide +kernel, rfl, by decide +kernel, by decide +kernel⟩
theorem ok__law_unwell (T : Txt K mg) : Y.FnOk P w K mg base (L2.CX P w) 2 T.a__law_unwell T.d__law_unwell ["_law_house_here"] (spY K (clK K) false 1 fn__law_unwell) := by
  unfold fn__law_unwell
  exact fn_ok T.F__law_unwell sc__law_unwell rfl rfl (by decide) fun cdv A outer s H E hr => show JB _ _ _ _ _ m__law_unwell from
      jb_1 (js_ret (je_lc (own := [("_law_room", 1)]) false rfl sc__law_unwell.nd (ji_rng2 (by rfl) T.z_range (jo_e (je_int)) (jo_e (je_callB cr_len pr_len (by rfl) T.z_len (by rfl) (ja_c (jo_e (je_ix ix_seq pr_ix (jo_v 0 (pv 0)) (jo_e (je_int)) (fun _ _ => rfl))) (ja_n))))) (blkOk_by (own := [("_law_room", 1)]) (N := N__law_unwell) (sc := (defScope (top 33))) (by decide +kernel)) (fun _ _ _ _ _ => pg_name (i := 1) sc__law_unwell.nd rfl (by first | exact Or.inl rfl | exact Or.inr rfl)) (tg_name (i := 1) (by decide)) (tw_name (i := 1) (by decide)) (fun _ _ _ _ _ => jts_one (jt_cmp (or_eq hr.units) (nomark _) pr_eq (jo_e (je_call (ok__law_seen_by T) (hr.mono (by decide)) T.m__law_seen_by T.F__law_seen_by.kp T.b__law_seen_by (ja_c (jo_v 0 (pv 0)) (ja_c (jo_v 1 (pv 1)) (ja_n))))) (jo_e (je_lst (ja_n))))) (fun _ _ _ _ _ => je_v 1 (pv 1))))
abbrev N_made : List Str := ["house", "rooms", "doors", "room"]
theorem sc_made : FnScope N_made ["house"] (defScope (top 3)) := ⟨rfl, rfl, rfl, by decide +kernel, rfl, by decide +kernel, by decide +kernel⟩
theorem ok_made (T : Txt K mg) : Y.FnOk P w K mg base (L2.CX P w) 1 T.a_made T.d_made ["house"] (spY K (clK K) false 1 fn_made) := by
  unfold fn_made
  exact fn_ok T.F_made sc_made rfl rfl (by decide) fun cdv A outer s H E hr => show JB _ _ _ _ _ m_made from
      jb_c (js_asg (pg_tupA rfl (pgs_cons (pg_name (i := 1) sc_made.nd rfl (by first | exact Or.inl rfl | exact Or.inr rfl)) (pgs_cons (pg_name (i := 2) sc_made.nd rfl (by first | exact Or.inl rfl | exact Or.inr rfl)) (pgs_nil)))) (tg_tup (tgs_c (tg_name (i := 1) (by decide)) (tgs_c (tg_name (i := 2) (by decide)) (tgs_nil))) rfl) (je_v 0 (pv 0))) (
      jb_1 (js_ret (je_tup (ja_c (jo_e (je_callT call_tuple_of pr_tuple (by rfl) T.z_tuple (by rfl) (ja_c (jo_e (je_lc (own := [("room", 3)]) false rfl sc_made.nd (ji_seq (jo_v 1 (pv 1))) (blkOk_by (own := [("room", 3)]) (N := N_made) (sc := (defScope (top 3))) (by decide +kernel)) (fun _ _ _ _ _ => pg_name (i := 3) sc_made.nd rfl (by first | exact Or.inl rfl | exact Or.inr rfl)) (tg_name (i := 3) (by decide)) (tw_name (i := 3) (by decide)) (fun _ _ _ _ _ => jts_nil) (fun _ _ _ _ _ => je_callT call_tuple_of pr_tuple (by rfl) T.z_tuple (by rfl) (ja_c (jo_v 3 (pv 3)) (ja_n))))) (ja_n)))) (ja_c (jo_e (je_callT call_tuple_of pr_tuple (by rfl) T.z_tuple (by rfl) (ja_c (jo_v 2 (pv 2)) (ja_n)))) (ja_n))))))
abbrev N_moved : List Str := ["rooms", "weight", "begin", "end", "found", "one"]
theorem sc_moved : FnScope N_moved ["rooms", "weight", "begin", "end"] (defScope (top 10)) := ⟨rfl, rfl, rfl, by decide +kernel, rfl, by decide +kernel, by decide +kernel⟩
theorem ok_moved (T : Txt K mg) : Y.FnOk P w K mg base (L2.CX P w) 1 T.a_moved T.d_moved ["rooms", "weight", "begin", "end"] (spY K (clK K) false 4 fn_moved) := by
  unfold fn_moved
  exact fn_ok T.F_moved sc_moved rfl rfl (by decide) fun cdv A outer s H E hr => show JB _ _ _ _ _ m_moved from
      jb_c (js_set (i := 4) sc_moved.nd rfl (by first | exact Or.inl rfl | exact Or.inr rfl) (by decide) (je_callT call_list_of pr_list (by rfl) T.z_list (by rfl) (ja_c (jo_v 0 (pv 0)) (ja_n)))) (
      jb_c (js_setI 4 (pv 4) (je_v 2 (pv 2)) (je_callT call_tuple_of pr_tuple (by rfl) T.z_tuple (by rfl) (ja_c (jo_e (je_lc (own := [("one", 5)]) false rfl sc_moved.nd (ji_seq (jo_e (je_ix ix_seq pr_ix (jo_v 4 (pv 4)) (jo_v 2 (pv 2)) (fun _ _ => rfl)))) (blkOk_by (own := [("one", 5)]) (N := N_moved) (sc := (defScope (top 10))) (by decide +kernel)) (fun _ _ _ _ _ => pg_name (i := 5) sc_moved.nd rfl (by first | exact Or.inl rfl | exact Or.inr rfl)) (tg_name (i := 5) (by decide)) (tw_name (i := 5) (by decide)) (fun _ _ _ _ _ => jts_one (jt_cmp (or_ne hr.units) (nomark _) pr_ne (jo_v 5 (pv 5)) (jo_v 1 (pv 1)))) (fun _ _ _ _ _ => je_v 5 (pv 5)))) (ja_n)))) (
      jb_c (js_setI 4 (pv 4) (je_v 3 (pv 3)) (je_callT call_tuple_of pr_tuple (by rfl) T.z_tuple (by rfl) (ja_c (jo_e (je_callB (cr_sortD hr.units) pr_sorted (by rfl) T.z_sorted (by rfl) (ja_c (jo_e (je_bin or_add pr_add (jo_e (je_ix ix_seq pr_ix (jo_v 4 (pv 4)) (jo_v 3 (pv 3)) (fun _ _ => rfl))) (jo_e (je_tup (ja_c (jo_v 1 (pv 1)) (ja_n)))))) (ja_n)))) (ja_n)))) (
      jb_1 (js_ret (je_callT call_tuple_of pr_tuple (by rfl) T.z_tuple (by rfl) (ja_c (jo_v 4 (pv 4)) (ja_n)))))))
abbrev N_way_let : List Str := ["house", "weight", "door", "rooms", "doors"]
theorem sc_way_let : FnScope N_way_let ["house", "weight", "door"] (defScope (top 7)) := ⟨rfl, rfl, rfl, by decide +kernel, rfl, by decide +kernel, by decide +kernel⟩
theorem ok_way_let (T : Txt K mg) : Y.FnOk P w K mg base (L2.CX P w) 1 T.a_way_let T.d_way_let ["house", "weight", "door"] (spY K (clK K) false 3 fn_way_let) := by
  unfold fn_way_let
  exact fn_ok T.F_way_let sc_way_let rfl rfl (by decide) fun cdv A outer s H E hr => show JB _ _ _ _ _ m_way_let from
      jb_c (js_asg (pg_tupA rfl (pgs_cons (pg_name (i := 3) sc_way_let.nd rfl (by first | exact Or.inl rfl | exact Or.inr rfl)) (pgs_cons (pg_name (i := 4) sc_way_let.nd rfl (by first | exact Or.inl rfl | exact Or.inr rfl)) (pgs_nil)))) (tg_tup (tgs_c (tg_name (i := 3) (by decide)) (tgs_c (tg_name (i := 4) (by decide)) (tgs_nil))) rfl) (je_v 0 (pv 0))) (
      jb_c (js_if (jt_not (jt_chain op_le op_lt pr_le pr_lt (jo_e (je_int)) (jo_v 2 (pv 2)) (jo_e (je_callB cr_len pr_len (by rfl) T.z_len (by rfl) (ja_c (jo_v 3 (pv 3)) (ja_n)))))) (
      jb_1 (js_ret (je_non))) (jb_nil)) (
      jb_c (js_if (jt_w (jw_and (jt_cmp (or_in (u65 hr)) rfl pr_in (jo_v 1 (pv 1)) (jo_e (je_ix ix_seq pr_ix (jo_v 3 (pv 3)) (jo_e (je_bin op_sub pr_sub (jo_v 2 (pv 2)) (jo_e (je_int)))) (fun _ _ => rfl)))) (jw_and1 (jt_cmp op_gt (nomark _) pr_gt (jo_v 1 (pv 1)) (jo_e (je_ix ix_seq pr_ix (jo_v 4 (pv 4)) (jo_e (je_bin op_sub pr_sub (jo_v 2 (pv 2)) (jo_e (je_int)))) (fun _ _ => rfl))))))) (
      jb_1 (js_ret (je_gs (by rfl) T.g_FORTH))) (jb_nil)) (
      jb_1 (js_ret (je_if (jt_w (jw_and (jt_cmp (or_in (u65 hr)) rfl pr_in (jo_v 1 (pv 1)) (jo_e (je_ix ix_seq pr_ix (jo_v 3 (pv 3)) (jo_v 2 (pv 2)) (fun _ _ => rfl)))) (jw_and1 (jt_cmp op_lt (nomark _) pr_lt (jo_v 1 (pv 1)) (jo_e (je_ix ix_seq pr_ix (jo_v 4 (pv 4)) (jo_e (je_bin op_sub pr_sub (jo_v 2 (pv 2)) (jo_e (je_int)))) (fun _ _ => rfl))))))) (je_gs (by rfl) T.g_BACK) (je_non))))))
abbrev N_way : List Str := ["house", "going", "found"]
theorem sc_way : FnScope N_way ["house", "going"] (defScope (top 9)) := ⟨rfl, rfl, rfl, by decide +kernel, rfl, by decide +kernel, by decide +kernel⟩
theorem ok_way (T : Txt K mg) : Y.FnOk P w K mg base (L2.CX P w) 2 T.a_way T.d_way ["house", "going"] (spY K (clK K) false 2 fn_way) := by
  unfold fn_way
  exact fn_ok T.F_way sc_way rfl rfl (by decide) fun cdv A outer s H E hr => show JB _ _ _ _ _ m_way from
      jb_c (js_set (i := 2) sc_way.nd rfl (by first | exact Or.inl rfl | exact Or.inr rfl) (by decide) (je_call (ok_way_let T) (hr.mono (by decide)) T.m_way_let T.F_way_let.kp T.b_way_let (ja_c (jo_v 0 (pv 0)) (ja_c (jo_e (je_ix ix_seq pr_ix (jo_v 1 (pv 1)) (jo_e (je_int)) (fun _ _ => rfl))) (ja_c (jo_e (je_ix ix_seq pr_ix (jo_v 1 (pv 1)) (jo_e (je_int)) (fun _ _ => rfl))) (ja_n)))))) (
      jb_c (js_if (jt_cmp or_is (nomark _) pr_is (jo_v 2 (pv 2)) (jo_e (je_non))) (
      jb_1 (js_never)) (jb_nil)) (
      jb_1 (js_retV 2 (pv 2))))
abbrev N_gone : List Str := ["house", "going", "weight", "door", "is_forth", "rooms", "doors", "begin", "end"]
theorem sc_gone : FnScope N_gone ["house", "going"] (defScope (top 11)) := ⟨rfl, rfl, rfl, by decide +kernel, rfl, by decide +kernel, by decide +kernel⟩
theorem ok_gone (T : Txt K mg) : Y.FnOk P w K mg base (L2.CX P w) 3 T.a_gone T.d_gone ["house", "going"] (spY K (clK K) false 2 fn_gone) := by
  unfold fn_gone
  exact fn_ok T.F_gone sc_gone rfl rfl (by decide) fun cdv A outer s H E hr => show JB _ _ _ _ _ m_gone from
      jb_c (js_asg (pg_tupA rfl (pgs_cons (pg_name (i := 2) sc_gone.nd rfl (by first | exact Or.inl rfl | exact Or.inr rfl)) (pgs_cons (pg_name (i := 3) sc_gone.nd rfl (by first | exact Or.inl rfl | exact Or.inr rfl)) (pgs_nil)))) (tg_tup (tgs_c (tg_name (i := 2) (by decide)) (tgs_c (tg_name (i := 3) (by decide)) (tgs_nil))) rfl) (je_v 1 (pv 1))) (
      jb_c (js_set (i := 4) sc_gone.nd rfl (by first | exact Or.inl rfl | exact Or.inr rfl) (by decide) (je_cmp (or_eq hr.units) (nomark _) pr_eq (jo_e (je_call (ok_way T) (hr.mono (by decide)) T.m_way T.F_way.kp T.b_way (ja_c (jo_v 0 (pv 0)) (ja_c (jo_v 1 (pv 1)) (ja_n))))) (jo_e (je_gs (by rfl) T.g_FORTH)))) (
      jb_c (js_asg (pg_tupA rfl (pgs_cons (pg_name (i := 5) sc_gone.nd rfl (by first | exact Or.inl rfl | exact Or.inr rfl)) (pgs_cons (pg_name (i := 6) sc_gone.nd rfl (by first | exact Or.inl rfl | exact Or.inr rfl)) (pgs_nil)))) (tg_tup (tgs_c (tg_name (i := 5) (by decide)) (tgs_c (tg_name (i := 6) (by decide)) (tgs_nil))) rfl) (je_call (ok_made T) (hr.mono (by decide)) T.m_made T.F_made.kp T.b_made (ja_c (jo_v 0 (pv 0)) (ja_n)))) (
      jb_c (js_asg (pg_tupA rfl (pgs_cons (pg_name (i := 7) sc_gone.nd rfl (by first | exact Or.inl rfl | exact Or.inr rfl)) (pgs_cons (pg_name (i := 8) sc_gone.nd rfl (by first | exact Or.inl rfl | exact Or.inr rfl)) (pgs_nil)))) (tg_tup (tgs_c (tg_name (i := 7) (by decide)) (tgs_c (tg_name (i := 8) (by decide)) (tgs_nil))) rfl) (je_if (jt_val (je_v 4 (pv 4))) (je_tup (ja_c (jo_e (je_bin op_sub pr_sub (jo_v 3 (pv 3)) (jo_e (je_int)))) (ja_c (jo_v 3 (pv 3)) (ja_n)))) (je_tup (ja_c (jo_v 3 (pv 3)) (ja_c (jo_e (je_bin op_sub pr_sub (jo_v 3 (pv 3)) (jo_e (je_int)))) (ja_n)))))) (
      jb_1 (js_ret (je_tup (ja_c (jo_e (je_call (ok_moved T) (hr.mono (by decide)) T.m_moved T.F_moved.kp T.b_moved (ja_c (jo_v 5 (pv 5)) (ja_c (jo_v 2 (pv 2)) (ja_c (jo_v 7 (pv 7)) (ja_c (jo_v 8 (pv 8)) (ja_n))))))) (ja_c (jo_e (je_bin or_add pr_add (jo_e (je_bin or_add pr_add (jo_e (je_sl (jo_v 6 (pv 6)) .none (.some (je_bin op_sub pr_sub (jo_v 3 (pv 3)) (jo_e (je_int)))))) (jo_e (je_tup (ja_c (jo_v 2 (pv 2)) (ja_n)))))) (jo_e (je_sl (jo_v 6 (pv 6)) (.some (je_v 3 (pv 3))) .none)))) (ja_n)))))))))
abbrev N_may_go : List Str := ["house", "found", "number", "room", "near", "door", "weight"]
theorem sc_may_go : FnScope N_may_go ["house"] (defScope (top 8)) := ⟨rfl, rfl, rfl, by decide +kernel, rfl, by decide +kernel, by decide +kernel⟩
theorem ok_may_go (T : Txt K mg) : Y.FnOk P w K mg base (L2.CX P w) 2 T.a_may_go T.d_may_go ["house"] (spY K (clK K) false 1 fn_may_go) := by
  unfold fn_may_go
  exact fn_ok T.F_may_go sc_may_go rfl rfl (by decide) fun cdv A outer s H E hr => show JB _ _ _ _ _ m_may_go from
      jb_c (js_set (i := 1) sc_may_go.nd rfl (by first | exact Or.inl rfl | exact Or.inr rfl) (by decide) (je_lst (ja_n))) (
      jb_c (js_for (passes_of rfl) rfl (ji_enum (by rfl) T.z_enumerate (jo_e (je_ix ix_seq pr_ix (jo_v 0 (pv 0)) (jo_e (je_int)) (fun _ _ => rfl)))) (pg_tupA rfl (pgs_cons (pg_name (i := 2) sc_may_go.nd rfl (by first | exact Or.inl rfl | exact Or.inr rfl)) (pgs_cons (pg_name (i := 3) sc_may_go.nd rfl (by first | exact Or.inl rfl | exact Or.inr rfl)) (pgs_nil)))) (tg_tup (tgs_c (tg_name (i := 2) (by decide)) (tgs_c (tg_name (i := 3) (by decide)) (tgs_nil))) rfl) (
      jb_c (js_set (i := 4) sc_may_go.nd rfl (by first | exact Or.inl rfl | exact Or.inr rfl) (by decide) (je_lc (own := [("door", 5)]) false rfl sc_may_go.nd (ji_seq (jo_e (je_tup (ja_c (jo_v 2 (pv 2)) (ja_c (jo_e (je_bin or_add pr_add (jo_v 2 (pv 2)) (jo_e (je_int)))) (ja_n)))))) (blkOk_by (own := [("door", 5)]) (N := N_may_go) (sc := (defScope (top 8))) (by decide +kernel)) (fun _ _ _ _ _ => pg_name (i := 5) sc_may_go.nd rfl (by first | exact Or.inl rfl | exact Or.inr rfl)) (tg_name (i := 5) (by decide)) (tw_name (i := 5) (by decide)) (fun _ _ _ _ _ => jts_one (jt_chain op_lt op_lt pr_lt pr_lt (jo_e (je_int)) (jo_v 5 (pv 5)) (jo_e (je_callB cr_len pr_len (by rfl) T.z_len (by rfl) (ja_c (jo_e (je_ix ix_seq pr_ix (jo_v 0 (pv 0)) (jo_e (je_int)) (fun _ _ => rfl))) (ja_n)))))) (fun _ _ _ _ _ => je_v 5 (pv 5)))) (
      jb_1 (js_ext 1 (pv 1) (je_lc2 (own := [("weight", 6), ("door", 5)]) rfl sc_may_go.nd (ji_seq (jo_v 3 (pv 3))) (blkOk_by (own := [("weight", 6), ("door", 5)]) (N := N_may_go) (sc := (defScope (top 8))) (by decide +kernel)) (vs1 := [5]) (by decide) (fun _ _ _ _ _ => pg_name (i := 6) sc_may_go.nd rfl (by first | exact Or.inl rfl | exact Or.inr rfl)) (tg_name (i := 6) (by decide)) (tw_name (i := 6) (by decide)) (fun _ _ _ _ _ => jts_nil) (fun _ _ _ _ _ => ji_seq (jo_v 4 (pv 4))) (fun _ _ _ _ _ => pg_name (i := 5) sc_may_go.nd rfl (by first | exact Or.inl rfl | exact Or.inr rfl)) (tg_name (i := 5) (by decide)) (tw_name (i := 5) (by decide)) (fun _ _ _ _ _ => jts_one (jt_cmp or_not (nomark _) pr_not (jo_e (je_call (ok_way_let T) (hr.mono (by decide)) T.m_way_let T.F_way_let.kp T.b_way_let (ja_c (jo_v 0 (pv 0)) (ja_c (jo_v 6 (pv 6)) (ja_c (jo_v 5 (pv 5)) (ja_n)))))) (jo_e (je_non)))) (fun _ _ _ _ _ => je_tup (ja_c (jo_v 6 (pv 6)) (ja_c (jo_v 5 (pv 5)) (ja_n))))))))) (
      jb_1 (js_ret (je_callB (cr_sortD hr.units) pr_sorted (by rfl) T.z_sorted (by rfl) (ja_c (jo_v 1 (pv 1)) (ja_n))))))
abbrev N_is_end : List Str := ["house"]
theorem sc_is_end : FnScope N_is_end ["house"] (defScope (top 13)) := ⟨rfl, rfl, rfl, by decide +kernel, rfl, by decide +kernel, by decide +kernel⟩
theorem ok_is_end (T : Txt K mg) : Y.FnOk P w K mg base (L2.CX P w) 3 T.a_is_end T.d_is_end ["house"] (spY K (clK K) false 1 fn_is_end) := by
  unfold fn_is_end
  exact fn_ok T.F_is_end sc_is_end rfl rfl (by decide) fun cdv A outer s H E hr => show JB _ _ _ _ _ m_is_end from
      jb_1 (js_ret (je_cmp (or_eq hr.units) (nomark _) pr_eq (jo_e (je_callB cr_len pr_len (by rfl) T.z_len (by rfl) (ja_c (jo_e (je_call (ok_may_go T) (hr.mono (by decide)) T.m_may_go T.F_may_go.kp T.b_may_go (ja_c (jo_v 0 (pv 0)) (ja_n)))) (ja_n)))) (jo_e (je_int))))
abbrev N_is_sorted : List Str := ["house", "row", "room", "weight"]
theorem sc_is_sorted : FnScope N_is_sorted ["house"] (defScope (top 14)) := ⟨rfl, rfl, rfl, by decide +kernel, rfl, by decide +kernel, by decide +kernel⟩
theorem ok_is_sorted (T : Txt K mg) : Y.FnOk P w K mg base (L2.CX P w) 1 T.a_is_sorted T.d_is_sorted ["house"] (spY K (clK K) false 1 fn_is_sorted) := by
  unfold fn_is_sorted
  exact fn_ok T.F_is_sorted sc_is_sorted rfl rfl (by decide) fun cdv A outer s H E hr => show JB _ _ _ _ _ m_is_sorted from
      jb_c (js_setLc2 (i := 1) (own := [("room", 2), ("weight", 3)]) rfl sc_is_sorted.nd rfl rfl (sw_true rfl rfl rfl (by decide +kernel)) (by decide) (ji_seq (jo_e (je_ix ix_seq pr_ix (jo_v 0 (pv 0)) (jo_e (je_int)) (fun _ _ => rfl)))) (blkOk_by (own := [("room", 2), ("weight", 3)]) (N := N_is_sorted) (sc := (defScope (top 14))) (by decide +kernel)) (vs1 := [3]) (by decide) (fun _ _ _ _ _ => pg_name (i := 2) sc_is_sorted.nd rfl (by first | exact Or.inl rfl | exact Or.inr rfl)) (tg_name (i := 2) (by decide)) (tw_name (i := 2) (by decide)) (fun _ _ _ _ _ => jts_nil) (fun _ _ _ _ _ => ji_seq (jo_v 2 (pv 2))) (fun _ _ _ _ _ => pg_name (i := 3) sc_is_sorted.nd rfl (by first | exact Or.inl rfl | exact Or.inr rfl)) (tg_name (i := 3) (by decide)) (tw_name (i := 3) (by decide)) (fun _ _ _ _ _ => jts_nil) (fun _ _ _ _ _ => je_v 3 (pv 3))) (
      jb_1 (js_ret (je_cmp (or_eq hr.units) (nomark _) pr_eq (jo_v 1 (pv 1)) (jo_e (je_callB (cr_sortD hr.units) pr_sorted (by rfl) T.z_sorted (by rfl) (ja_c (jo_v 1 (pv 1)) (ja_n)))))))
abbrev N_witnesses : List Str := ["house", "room", "before", "behind", "weight"]
theorem sc_witnesses : FnScope N_witnesses ["house", "room"] (defScope (top 15)) := ⟨rfl, rfl, rfl, by decide +kernel, rfl, by decide +kernel, by decide +kernel⟩
theorem ok_witnesses (T : Txt K mg) : Y.FnOk P w K mg base (L2.CX P w) 1 T.a_witnesses T.d_witnesses ["house", "room"] (spY K (clK K) false 2 fn_witnesses) := by
  unfold fn_witnesses
  exact fn_ok T.F_witnesses sc_witnesses rfl rfl (by decide) fun cdv A outer s H E hr => show JB _ _ _ _ _ m_witnesses from
      jb_c (js_asg (pg_tupA rfl (pgs_cons (pg_name (i := 2) sc_witnesses.nd rfl (by first | exact Or.inl rfl | exact Or.inr rfl)) (pgs_cons (pg_name (i := 3) sc_witnesses.nd rfl (by first | exact Or.inl rfl | exact Or.inr rfl)) (pgs_nil)))) (tg_tup (tgs_c (tg_name (i := 2) (by decide)) (tgs_c (tg_name (i := 3) (by decide)) (tgs_nil))) rfl) (je_tup (ja_c (jo_e (je_ix ix_seq pr_ix (jo_e (je_ix ix_seq pr_ix (jo_v 0 (pv 0)) (jo_e (je_int)) (fun _ _ => rfl))) (jo_e (je_bin op_sub pr_sub (jo_v 1 (pv 1)) (jo_e (je_int)))) (fun _ _ => rfl))) (ja_c (jo_e (je_ix ix_seq pr_ix (jo_e (je_ix ix_seq pr_ix (jo_v 0 (pv 0)) (jo_e (je_int)) (fun _ _ => rfl))) (jo_v 1 (pv 1)) (fun _ _ => rfl))) (ja_n))))) (
      jb_c (js_if (jt_cmp op_le (nomark _) pr_le (jo_v 2 (pv 2)) (jo_v 3 (pv 3))) (
      jb_1 (js_ret (je_non))) (jb_nil)) (
      jb_1 (js_ret (je_lc (own := [("weight", 4)]) false rfl sc_witnesses.nd (ji_seq (jo_e (je_ix ix_seq pr_ix (jo_e (je_ix ix_seq pr_ix (jo_v 0 (pv 0)) (jo_e (je_int)) (fun _ _ => rfl))) (jo_v 1 (pv 1)) (fun _ _ => rfl)))) (blkOk_by (own := [("weight", 4)]) (N := N_witnesses) (sc := (defScope (top 15))) (by decide +kernel)) (fun _ _ _ _ _ => pg_name (i := 4) sc_witnesses.nd rfl (by first | exact Or.inl rfl | exact Or.inr rfl)) (tg_name (i := 4) (by decide)) (tw_name (i := 4) (by decide)) (fun _ _ _ _ _ => jts_one (jt_w (jw_or (jt_cmp op_ge (nomark _) pr_ge (jo_v 4 (pv 4)) (jo_v 2 (pv 2))) (jw_or1 (jt_cmp op_le (nomark _) pr_le (jo_v 4 (pv 4)) (jo_v 3 (pv 3))))))) (fun _ _ _ _ _ => je_v 4 (pv 4))))))
abbrev N_unwell : List Str := ["house", "room"]
theorem sc_unwell : FnScope N_unwell ["house"] (defScope (top 16)) := ⟨rfl, rfl, rfl, by decide +kernel, rfl, by decide +kernel, by decide +kernel⟩
theorem ok_unwell (T : Txt K mg) : Y.FnOk P w K mg base (L2.CX P w) 2 T.a_unwell T.d_unwell ["house"] (spY K (clK K) false 1 fn_unwell) := by
  unfold fn_unwell
  exact fn_ok T.F_unwell sc_unwell rfl rfl (by decide) fun cdv A outer s H E hr => show JB _ _ _ _ _ m_unwell from
      jb_1 (js_ret (je_lc (own := [("room", 1)]) false rfl sc_unwell.nd (ji_rng2 (by rfl) T.z_range (jo_e (je_int)) (jo_e (je_callB cr_len pr_len (by rfl) T.z_len (by rfl) (ja_c (jo_e (je_ix ix_seq pr_ix (jo_v 0 (pv 0)) (jo_e (je_int)) (fun _ _ => rfl))) (ja_n))))) (blkOk_by (own := [("room", 1)]) (N := N_unwell) (sc := (defScope (top 16))) (by decide +kernel)) (fun _ _ _ _ _ => pg_name (i := 1) sc_unwell.nd rfl (by first | exact Or.inl rfl | exact Or.inr rfl)) (tg_name (i := 1) (by decide)) (tw_name (i := 1) (by decide)) (fun _ _ _ _ _ => jts_one (jt_cmp (or_eq hr.units) (nomark _) pr_eq (jo_e (je_call (ok_witnesses T) (hr.mono (by decide)) T.m_witnesses T.F_witnesses.kp T.b_witnesses (ja_c (jo_v 0 (pv 0)) (ja_c (jo_v 1 (pv 1)) (ja_n))))) (jo_e (je_lst (ja_n))))) (fun _ _ _ _ _ => je_v 1 (pv 1))))
abbrev N_is_well : List Str := ["house"]
theorem sc_is_well : FnScope N_is_well ["house"] (defScope (top 17)) := ⟨rfl, rfl, rfl, by decide +kernel, rfl, by decide +kernel, by decide +kernel⟩
theorem ok_is_well (T : Txt K mg) : Y.FnOk P w K mg base (L2.CX P w) 3 T.a_is_well T.d_is_well ["house"] (spY K (clK K) false 1 fn_is_well) := by
  unfold fn_is_well
  exact fn_ok T.F_is_well sc_is_well rfl rfl (by decide) fun cdv A outer s H E hr => show JB _ _ _ _ _ m_is_well from
      jb_1 (js_ret (je_cmp (or_eq hr.units) (nomark _) pr_eq (jo_e (je_call (ok_unwell T) (hr.mono (by decide)) T.m_unwell T.F_unwell.kp T.b_unwell (ja_c (jo_v 0 (pv 0)) (ja_n)))) (jo_e (je_lst (ja_n)))))
abbrev N__law_right : List Str := ["_law_tape_here", "_law_house_here", "_law_sort", "_law_found", "_law_begun_well", "_law_k", "_law_here", "_law_hop"]
theorem sc__law_right : FnScope N__law_right ["_law_tape_here"] (defScope (top 36)) := ⟨rfl, rfl, rfl, by decide +kernel, rfl, by decide +kernel, by decide +kernel⟩
theorem ok__law_right (T : Txt K mg) : Y.FnOk P w K mg base (L2.CX P w) 10 T.a__law_right T.d__law_right ["_law_tape_here"] (spY K (clK K) true 1 fn__law_right) := by
  unfold fn__law_right
  exact fn_ok T.F__law_right sc__law_right rfl rfl (by decide) fun cdv A outer s H E hr => show JB _ _ _ _ _ m__law_right from
      jb_c (js_par2 (i := 1) (j := 2) rfl sc__law_right.nd rfl rfl (by decide) rfl rfl (by decide) (je_callI (i := 0) (ok__law_house T) (hr.mono (by decide)) T.m__law_house T.F__law_house.kp T.b__law_house (ja_c (jo_v 0 (pv 0)) (ja_c (jo_e (je_int)) (ja_c (jo_e (je_int)) (ja_n))))) (je_callI (i := 0) (ok__law_draw T) (hr.mono (by decide)) T.m__law_draw T.F__law_draw.kp T.b__law_draw (ja_c (jo_v 0 (pv 0)) (ja_c (jo_e (je_int)) (ja_n)))) rfl) (
      jb_c (js_set (i := 1) sc__law_right.nd rfl (by first | exact Or.inl rfl | exact Or.inr rfl) (by decide) (je_if (jt_cmp op_gt (nomark _) pr_gt (jo_v 2 (pv 2)) (jo_e (je_int))) (je_v 1 (pv 1)) (je_tup (ja_c (jo_e (je_ix ix_seq pr_ix (jo_v 1 (pv 1)) (jo_e (je_int)) (fun _ _ => rfl))) (ja_c (jo_e (je_bin or_mul pr_mul (jo_e (je_tup (ja_c (jo_e (je_int)) (ja_n)))) (jo_e (je_callB cr_len pr_len (by rfl) T.z_len (by rfl) (ja_c (jo_e (je_ix ix_seq pr_ix (jo_v 1 (pv 1)) (jo_e (je_int)) (fun _ _ => rfl))) (ja_n)))))) (ja_n)))))) (
      jb_c (js_par2 (i := 3) (j := 4) rfl sc__law_right.nd rfl rfl (by decide) rfl rfl (by decide) (je_call (ok__law_lot T) (hr.mono (by decide)) T.m__law_lot T.F__law_lot.kp T.b__law_lot (ja_c (jo_v 1 (pv 1)) (ja_n))) (je_call (ok_is_well T) (hr.mono (by decide)) T.m_is_well T.F_is_well.kp T.b_is_well (ja_c (jo_v 1 (pv 1)) (ja_n))) rfl) (
      jb_c (js_if (jt_w (jw_or (jt_not (jt_val (je_call (ok__law_ends_all T) (hr.mono (by decide)) T.m__law_ends_all T.F__law_ends_all.kp T.b__law_ends_all (ja_c (jo_v 3 (pv 3)) (ja_n))))) (jw_or1 (jt_cmp (or_ne hr.units) (nomark _) pr_ne (jo_v 4 (pv 4)) (jo_e (je_cmp (or_eq hr.units) (nomark _) pr_eq (jo_e (je_call (ok__law_unwell T) (hr.mono (by decide)) T.m__law_unwell T.F__law_unwell.kp T.b__law_unwell (ja_c (jo_v 1 (pv 1)) (ja_n)))) (jo_e (je_lst (ja_n))))))))) (
      jb_1 (js_ret (je_bl))) (jb_nil)) (
      jb_c (js_for (passes_of rfl) rfl (ji_enum (by rfl) T.z_enumerate (jo_e (je_callBk (cr_sortKN hr.units rfl) pr_sortKN (by rfl) T.z_sorted (by rfl) (ja_c (jo_v 3 (pv 3)) (ja_n))))) (pg_tupA rfl (pgs_cons (pg_name (i := 5) sc__law_right.nd rfl (by first | exact Or.inl rfl | exact Or.inr rfl)) (pgs_cons (pg_name (i := 6) sc__law_right.nd rfl (by first | exact Or.inl rfl | exact Or.inr rfl)) (pgs_nil)))) (tg_tup (tgs_c (tg_name (i := 5) (by decide)) (tgs_c (tg_name (i := 6) (by decide)) (tgs_nil))) rfl) (
      jb_c (js_if (jt_w (jw_or (jt_w (jw_and (jt_val (je_v 4 (pv 4))) (jw_and1 (jt_cmp (or_ne hr.units) (nomark _) pr_ne (jo_e (je_call (ok_unwell T) (hr.mono (by decide)) T.m_unwell T.F_unwell.kp T.b_unwell (ja_c (jo_v 6 (pv 6)) (ja_n)))) (jo_e (je_lst (ja_n))))))) (jw_or1 (jt_cmp (or_ne hr.units) (nomark _) pr_ne (jo_e (je_call (ok_is_end T) (hr.mono (by decide)) T.m_is_end T.F_is_end.kp T.b_is_end (ja_c (jo_v 6 (pv 6)) (ja_n)))) (jo_e (je_cmp (or_eq hr.units) (nomark _) pr_eq (jo_e (je_kIx (u65 hr) (jo_v 3 (pv 3)) (jo_v 6 (pv 6)) (fun _ _ => rfl))) (jo_e (je_lst (ja_n))))))))) (
      jb_1 (js_ret (je_bl))) (jb_nil)) (
      jb_c (js_if (jt_w (jw_and (jt_cmp (or_eq hr.units) (nomark _) pr_eq (jo_e (je_kIx (u65 hr) (jo_v 3 (pv 3)) (jo_v 6 (pv 6)) (fun _ _ => rfl))) (jo_e (je_lst (ja_n)))) (jw_and (jt_not (jt_val (je_call (ok_is_sorted T) (hr.mono (by decide)) T.m_is_sorted T.F_is_sorted.kp T.b_is_sorted (ja_c (jo_v 6 (pv 6)) (ja_n))))) (jw_and1 (jt_w (jw_or (jt_val (je_v 4 (pv 4))) (jw_or1 (jt_val (je_call (ok_is_well T) (hr.mono (by decide)) T.m_is_well T.F_is_well.kp T.b_is_well (ja_c (jo_v 6 (pv 6)) (ja_n))))))))))) (
      jb_1 (js_ret (je_bl))) (jb_nil)) (
      jb_1 (js_if (jt_cmp (or_eq hr.units) (nomark _) pr_eq (jo_e (je_bin op_mod pr_mod (jo_v 5 (pv 5)) (jo_e (je_int)))) (jo_e (je_int))) (
      jb_c (js_if (jt_not (jt_val (je_call (ok__law_same T 8) (hr.mono (by decide)) T.m__law_same T.F__law_same.kp T.b__law_same (ja_c (jo_e (je_call (ok_may_go T) (hr.mono (by decide)) T.m_may_go T.F_may_go.kp T.b_may_go (ja_c (jo_v 6 (pv 6)) (ja_n)))) (ja_c (jo_e (je_call (ok__law_steps T) (hr.mono (by decide)) T.m__law_steps T.F__law_steps.kp T.b__law_steps (ja_c (jo_v 6 (pv 6)) (ja_n)))) (ja_n)))))) (
      jb_1 (js_ret (je_bl))) (jb_nil)) (
      jb_1 (js_if (jt_cmp (or_ne hr.units) (nomark _) pr_ne (jo_e (je_lc (own := [("_law_hop", 7)]) false rfl sc__law_right.nd (ji_seq (jo_e (je_call (ok_may_go T) (hr.mono (by decide)) T.m_may_go T.F_may_go.kp T.b_may_go (ja_c (jo_v 6 (pv 6)) (ja_n))))) (blkOk_by (own := [("_law_hop", 7)]) (N := N__law_right) (sc := (defScope (top 36))) (by decide +kernel)) (fun _ _ _ _ _ => pg_name (i := 7) sc__law_right.nd rfl (by first | exact Or.inl rfl | exact Or.inr rfl)) (tg_name (i := 7) (by decide)) (tw_name (i := 7) (by decide)) (fun _ _ _ _ _ => jts_nil) (fun _ _ _ _ _ => je_call (ok_gone T) (hr.mono (by decide)) T.m_gone T.F_gone.kp T.b_gone (ja_c (jo_v 6 (pv 6)) (ja_c (jo_v 7 (pv 7)) (ja_n)))))) (jo_e (je_kIx (u65 hr) (jo_v 3 (pv 3)) (jo_v 6 (pv 6)) (fun _ _ => rfl)))) (
      jb_1 (js_ret (je_bl))) (jb_nil)))) (jb_nil)))))) (
      jb_1 (js_ret (je_bl)))))))
abbrev N__law_tape : List Str := ["_law_script", "_law_k", "_law_cell"]
theorem sc__law_tape : FnScope N__law_tape ["_law_script", "_law_k"] (defScope (top 19)) := ⟨rfl, rfl, rfl, by decide +kernel, rfl, by decide +kernel, by decide +kernel⟩
theorem ok__law_tape (T : Txt K mg) : Y.FnOk P w K mg base (L2.CX P w) 1 T.a__law_tape T.d__law_tape ["_law_script", "_law_k"] (spY K (clK K) false 2 fn__law_tape) := by
  unfold fn__law_tape
  exact fn_ok T.F__law_tape sc__law_tape rfl rfl (by decide) fun cdv A outer s H E hr => show JB _ _ _ _ _ m__law_tape from
      jb_c (js_set (i := 2) sc__law_tape.nd rfl (by first | exact Or.inl rfl | exact Or.inr rfl) (by decide) (je_if (jt_cmp op_lt (nomark _) pr_lt (jo_v 1 (pv 1)) (jo_e (je_callB cr_len pr_len (by rfl) T.z_len (by rfl) (ja_c (jo_v 0 (pv 0)) (ja_n))))) (je_ix ix_seq pr_ix (jo_v 0 (pv 0)) (jo_v 1 (pv 1)) (fun _ _ => rfl)) (je_int))) (
      jb_1 (js_ret (je_lst (ja_c (jo_e (je_bin or_mul pr_mul (jo_e (je_callB call_abs pr_abs (by rfl) T.z_abs (by rfl) (ja_c (jo_v 2 (pv 2)) (ja_n)))) (jo_e (je_callT call_int1 pr_int (by rfl) T.z_int (by rfl) (ja_c (jo_e (je_cmp op_ge (nomark _) pr_ge (jo_e (je_callB call_abs pr_abs (by rfl) T.z_abs (by rfl) (ja_c (jo_v 2 (pv 2)) (ja_n)))) (jo_e (je_bin op_pow pr_pow (jo_e (je_int)) (jo_e (je_int)))))) (ja_n)))))) (ja_c (jo_e (je_bin or_add pr_add (jo_e (je_bin or_add pr_add (jo_e (je_bin op_mod pr_mod (jo_v 2 (pv 2)) (jo_e (je_int)))) (jo_e (je_bin or_mul pr_mul (jo_e (je_int)) (jo_v 1 (pv 1)))))) (jo_e (je_int)))) (ja_c (jo_e (je_int)) (ja_n)))))))
abbrev N_law : List Str := ["_law_script", "_law_cells_here", "_law_k", "_law_tape_here", "_law_turn"]
theorem sc_law : FnScope N_law ["_law_script"] (defScope (top 37)) := ⟨rfl, rfl, rfl, by decide +kernel, rfl, by decide +kernel, by decide +kernel⟩
theorem ok_law (T : Txt K mg) : Y.FnOk P w K mg base (L2.CX P w) 11 T.a_law T.d_law ["_law_script"] (spY K (clK K) false 1 fn_law) := by
  unfold fn_law
  exact fn_ok T.F_law sc_law rfl rfl (by decide) fun cdv A outer s H E hr => show JB _ _ _ _ _ m_law from
      jb_c (js_set (i := 1) sc_law.nd rfl (by first | exact Or.inl rfl | exact Or.inr rfl) (by decide) (je_call (ok__law_cells T) (hr.mono (by decide)) T.m__law_cells T.F__law_cells.kp T.b__law_cells (ja_c (jo_v 0 (pv 0)) (ja_c (jo_e (je_int)) (ja_n))))) (
      jb_c (js_for (passes_of rfl) rfl (ji_rng1 (by rfl) T.z_range (jo_e (je_callB cr_len pr_len (by rfl) T.z_len (by rfl) (ja_c (jo_v 1 (pv 1)) (ja_n))))) (pg_name (i := 2) sc_law.nd rfl (by first | exact Or.inl rfl | exact Or.inr rfl)) (tg_name (i := 2) (by decide)) (
      jb_c (js_set (i := 3) sc_law.nd rfl (by first | exact Or.inl rfl | exact Or.inr rfl) (by decide) (je_call (ok__law_tape T) (hr.mono (by decide)) T.m__law_tape T.F__law_tape.kp T.b__law_tape (ja_c (jo_v 1 (pv 1)) (ja_c (jo_v 2 (pv 2)) (ja_n))))) (
      jb_1 (js_if (jt_not (jt_val (je_callB (cr_all rfl) pr_all (by rfl) T.z_all (by rfl) (ja_c (jo_e (je_lc (own := [("_law_turn", 4)]) false rfl sc_law.nd (ji_rng1 (by rfl) T.z_range (jo_e (je_int))) (blkOk_by (own := [("_law_turn", 4)]) (N := N_law) (sc := (defScope (top 37))) (by decide +kernel)) (fun _ _ _ _ _ => pg_name (i := 4) sc_law.nd rfl (by first | exact Or.inl rfl | exact Or.inr rfl)) (tg_name (i := 4) (by decide)) (tw_name (i := 4) (by decide)) (fun _ _ _ _ _ => jts_nil) (fun _ _ _ _ _ => je_callI (i := 3) (ok__law_right T) (hr.mono (by decide)) T.m__law_right T.F__law_right.kp T.b__law_right (ja_c (jo_v 3 (pv 3)) (ja_n))))) (ja_n))))) (
      jb_1 (js_ret (je_bl))) (jb_nil))))) (
      jb_1 (js_ret (je_bl))))
end
theorem all_mk {l : PySem.W.OpenLaw} {w : World} {K : PySem.W.Frag} {h : Heap} {mg : Str → Option Value} {fa : Addr} (X : K.In h) (G : h.Ns mainGlobals mg) (hfa : mg "law" = some (.ref fa))
    {f0 : Addr} {od0 an0 : Option Addr} {sl0 : Array (Option Value)} {oc0 kV0 dc0 pm0 cd0 ct0 : Value}
    (a0 : PySem.W.nsIn K mainGlobals "_law_folded" = some (some (.ref f0)))
    (l0 : K.lookup f0 = some ⟨oc0, od0, .func (PySem.W.fnOf "_law_folded" "_law_folded" (defArgs (top 21)) (defBody (top 21)) (defScope (top 21)) .none kV0 dc0 pm0 an0 cd0 ct0), sl0⟩) (c0 : PySem.W.codeIn K cd0 "_law_folded" = true) (k0 : PySem.W.keepIn K (.ref f0) = true)
    {f1 : Addr} {od1 an1 : Option Addr} {sl1 : Array (Option Value)} {oc1 kV1 dc1 pm1 cd1 ct1 : Value}
    (a1 : PySem.W.nsIn K mainGlobals "_law_cells" = some (some (.ref f1)))
    (l1 : K.lookup f1 = some ⟨oc1, od1, .func (PySem.W.fnOf "_law_cells" "_law_cells" (defArgs (top 29)) (defBody (top 29)) (defScope (top 29)) .none kV1 dc1 pm1 an1 cd1 ct1), sl1⟩) (c1 : PySem.W.codeIn K cd1 "_law_cells" = true) (k1 : PySem.W.keepIn K (.ref f1) = true)
    {f2 : Addr} {od2 an2 : Option Addr} {sl2 : Array (Option Value)} {oc2 kV2 dc2 pm2 cd2 ct2 : Value}
    (a2 : PySem.W.nsIn K mainGlobals "_law_draw" = some (some (.ref f2)))
    (l2 : K.lookup f2 = some ⟨oc2, od2, .func (PySem.W.fnOf "_law_draw" "_law_draw" (defArgs (top 20)) (defBody (top 20)) (defScope (top 20)) .none kV2 dc2 pm2 an2 cd2 ct2), sl2⟩) (c2 : PySem.W.codeIn K cd2 "_law_draw" = true) (k2 : PySem.W.keepIn K (.ref f2) = true)
    {f3 : Addr} {od3 an3 : Option Addr} {sl3 : Array (Option Value)} {oc3 kV3 dc3 pm3 cd3 ct3 : Value}
    (a3 : PySem.W.nsIn K mainGlobals "_law_ends_all" = some (some (.ref f3)))
    (l3 : K.lookup f3 = some ⟨oc3, od3, .func (PySem.W.fnOf "_law_ends_all" "_law_ends_all" (defArgs (top 35)) (defBody (top 35)) (defScope (top 35)) .none kV3 dc3 pm3 an3 cd3 ct3), sl3⟩) (c3 : PySem.W.codeIn K cd3 "_law_ends_all" = true) (k3 : PySem.W.keepIn K (.ref f3) = true)
    {f4 : Addr} {od4 an4 : Option Addr} {sl4 : Array (Option Value)} {oc4 kV4 dc4 pm4 cd4 ct4 : Value}
    (a4 : PySem.W.nsIn K mainGlobals "_law_of" = some (some (.ref f4)))
    (l4 : K.lookup f4 = some ⟨oc4, od4, .func (PySem.W.fnOf "_law_of" "_law_of" (defArgs (top 23)) (defBody (top 23)) (defScope (top 23)) .none kV4 dc4 pm4 an4 cd4 ct4), sl4⟩) (c4 : PySem.W.codeIn K cd4 "_law_of" = true) (k4 : PySem.W.keepIn K (.ref f4) = true)
    {f5 : Addr} {od5 an5 : Option Addr} {sl5 : Array (Option Value)} {oc5 kV5 dc5 pm5 cd5 ct5 : Value}
    (a5 : PySem.W.nsIn K mainGlobals "_law_dealt" = some (some (.ref f5)))
    (l5 : K.lookup f5 = some ⟨oc5, od5, .func (PySem.W.fnOf "_law_dealt" "_law_dealt" (defArgs (top 30)) (defBody (top 30)) (defScope (top 30)) .none kV5 dc5 pm5 an5 cd5 ct5), sl5⟩) (c5 : PySem.W.codeIn K cd5 "_law_dealt" = true) (k5 : PySem.W.keepIn K (.ref f5) = true)
    {f6 : Addr} {od6 an6 : Option Addr} {sl6 : Array (Option Value)} {oc6 kV6 dc6 pm6 cd6 ct6 : Value}
    (a6 : PySem.W.nsIn K mainGlobals "_law_folk" = some (some (.ref f6)))
    (l6 : K.lookup f6 = some ⟨oc6, od6, .func (PySem.W.fnOf "_law_folk" "_law_folk" (defArgs (top 24)) (defBody (top 24)) (defScope (top 24)) .none kV6 dc6 pm6 an6 cd6 ct6), sl6⟩) (c6 : PySem.W.codeIn K cd6 "_law_folk" = true) (k6 : PySem.W.keepIn K (.ref f6) = true)
    {f7 : Addr} {od7 an7 : Option Addr} {sl7 : Array (Option Value)} {oc7 kV7 dc7 pm7 cd7 ct7 : Value}
    (a7 : PySem.W.nsIn K mainGlobals "_law_new" = some (some (.ref f7)))
    (l7 : K.lookup f7 = some ⟨oc7, od7, .func (PySem.W.fnOf "_law_new" "_law_new" (defArgs (top 25)) (defBody (top 25)) (defScope (top 25)) .none kV7 dc7 pm7 an7 cd7 ct7), sl7⟩) (c7 : PySem.W.codeIn K cd7 "_law_new" = true) (k7 : PySem.W.keepIn K (.ref f7) = true)
    {f8 : Addr} {od8 an8 : Option Addr} {sl8 : Array (Option Value)} {oc8 kV8 dc8 pm8 cd8 ct8 : Value}
    (a8 : PySem.W.nsIn K mainGlobals "_law_behind" = some (some (.ref f8)))
    (l8 : K.lookup f8 = some ⟨oc8, od8, .func (PySem.W.fnOf "_law_behind" "_law_behind" (defArgs (top 27)) (defBody (top 27)) (defScope (top 27)) .none kV8 dc8 pm8 an8 cd8 ct8), sl8⟩) (c8 : PySem.W.codeIn K cd8 "_law_behind" = true) (k8 : PySem.W.keepIn K (.ref f8) = true)
    {f9 : Addr} {od9 an9 : Option Addr} {sl9 : Array (Option Value)} {oc9 kV9 dc9 pm9 cd9 ct9 : Value}
    (a9 : PySem.W.nsIn K mainGlobals "_law_steps" = some (some (.ref f9)))
    (l9 : K.lookup f9 = some ⟨oc9, od9, .func (PySem.W.fnOf "_law_steps" "_law_steps" (defArgs (top 26)) (defBody (top 26)) (defScope (top 26)) .none kV9 dc9 pm9 an9 cd9 ct9), sl9⟩) (c9 : PySem.W.codeIn K cd9 "_law_steps" = true) (k9 : PySem.W.keepIn K (.ref f9) = true)
    {f10 : Addr} {od10 an10 : Option Addr} {sl10 : Array (Option Value)} {oc10 kV10 dc10 pm10 cd10 ct10 : Value}
    (a10 : PySem.W.nsIn K mainGlobals "_law_walk" = some (some (.ref f10)))
    (l10 : K.lookup f10 = some ⟨oc10, od10, .func (PySem.W.fnOf "_law_walk" "_law_walk" (defArgs (top 28)) (defBody (top 28)) (defScope (top 28)) .none kV10 dc10 pm10 an10 cd10 ct10), sl10⟩) (c10 : PySem.W.codeIn K cd10 "_law_walk" = true) (k10 : PySem.W.keepIn K (.ref f10) = true)
    {f11 : Addr} {od11 an11 : Option Addr} {sl11 : Array (Option Value)} {oc11 kV11 dc11 pm11 cd11 ct11 : Value}
    (a11 : PySem.W.nsIn K mainGlobals "_law_house" = some (some (.ref f11)))
    (l11 : K.lookup f11 = some ⟨oc11, od11, .func (PySem.W.fnOf "_law_house" "_law_house" (defArgs (top 31)) (defBody (top 31)) (defScope (top 31)) .none kV11 dc11 pm11 an11 cd11 ct11), sl11⟩) (c11 : PySem.W.codeIn K cd11 "_law_house" = true) (k11 : PySem.W.keepIn K (.ref f11) = true)
    {f12 : Addr} {od12 an12 : Option Addr} {sl12 : Array (Option Value)} {oc12 kV12 dc12 pm12 cd12 ct12 : Value}
    (a12 : PySem.W.nsIn K mainGlobals "_law_lot" = some (some (.ref f12)))
    (l12 : K.lookup f12 = some ⟨oc12, od12, .func (PySem.W.fnOf "_law_lot" "_law_lot" (defArgs (top 34)) (defBody (top 34)) (defScope (top 34)) .none kV12 dc12 pm12 an12 cd12 ct12), sl12⟩) (c12 : PySem.W.codeIn K cd12 "_law_lot" = true) (k12 : PySem.W.keepIn K (.ref f12) = true)
    {f13 : Addr} {od13 an13 : Option Addr} {sl13 : Array (Option Value)} {oc13 kV13 dc13 pm13 cd13 ct13 : Value}
    (a13 : PySem.W.nsIn K mainGlobals "_law_same" = some (some (.ref f13)))
    (l13 : K.lookup f13 = some ⟨oc13, od13, .func (PySem.W.fnOf "_law_same" "_law_same" (defArgs (top 22)) (defBody (top 22)) (defScope (top 22)) .none kV13 dc13 pm13 an13 cd13 ct13), sl13⟩) (c13 : PySem.W.codeIn K cd13 "_law_same" = true) (k13 : PySem.W.keepIn K (.ref f13) = true)
    {f14 : Addr} {od14 an14 : Option Addr} {sl14 : Array (Option Value)} {oc14 kV14 dc14 pm14 cd14 ct14 : Value}
    (a14 : PySem.W.nsIn K mainGlobals "_law_seen_by" = some (some (.ref f14)))
    (l14 : K.lookup f14 = some ⟨oc14, od14, .func (PySem.W.fnOf "_law_seen_by" "_law_seen_by" (defArgs (top 32)) (defBody (top 32)) (defScope (top 32)) .none kV14 dc14 pm14 an14 cd14 ct14), sl14⟩) (c14 : PySem.W.codeIn K cd14 "_law_seen_by" = true) (k14 : PySem.W.keepIn K (.ref f14) = true)
    {f15 : Addr} {od15 an15 : Option Addr} {sl15 : Array (Option Value)} {oc15 kV15 dc15 pm15 cd15 ct15 : Value}
    (a15 : PySem.W.nsIn K mainGlobals "_law_unwell" = some (some (.ref f15)))
    (l15 : K.lookup f15 = some ⟨oc15, od15, .func (PySem.W.fnOf "_law_unwell" "_law_unwell" (defArgs (top 33)) (defBody (top 33)) (defScope (top 33)) .none kV15 dc15 pm15 an15 cd15 ct15), sl15⟩) (c15 : PySem.W.codeIn K cd15 "_law_unwell" = true) (k15 : PySem.W.keepIn K (.ref f15) = true)
    {f16 : Addr} {od16 an16 : Option Addr} {sl16 : Array (Option Value)} {oc16 kV16 dc16 pm16 cd16 ct16 : Value}
    (a16 : PySem.W.nsIn K mainGlobals "made" = some (some (.ref f16)))
    (l16 : K.lookup f16 = some ⟨oc16, od16, .func (PySem.W.fnOf "made" "made" (defArgs (top 3)) (defBody (top 3)) (defScope (top 3)) .none kV16 dc16 pm16 an16 cd16 ct16), sl16⟩) (c16 : PySem.W.codeIn K cd16 "made" = true) (k16 : PySem.W.keepIn K (.ref f16) = true)
    {f17 : Addr} {od17 an17 : Option Addr} {sl17 : Array (Option Value)} {oc17 kV17 dc17 pm17 cd17 ct17 : Value}
    (a17 : PySem.W.nsIn K mainGlobals "moved" = some (some (.ref f17)))
    (l17 : K.lookup f17 = some ⟨oc17, od17, .func (PySem.W.fnOf "moved" "moved" (defArgs (top 10)) (defBody (top 10)) (defScope (top 10)) .none kV17 dc17 pm17 an17 cd17 ct17), sl17⟩) (c17 : PySem.W.codeIn K cd17 "moved" = true) (k17 : PySem.W.keepIn K (.ref f17) = true)
    {f18 : Addr} {od18 an18 : Option Addr} {sl18 : Array (Option Value)} {oc18 kV18 dc18 pm18 cd18 ct18 : Value}
    (a18 : PySem.W.nsIn K mainGlobals "way_let" = some (some (.ref f18)))
    (l18 : K.lookup f18 = some ⟨oc18, od18, .func (PySem.W.fnOf "way_let" "way_let" (defArgs (top 7)) (defBody (top 7)) (defScope (top 7)) .none kV18 dc18 pm18 an18 cd18 ct18), sl18⟩) (c18 : PySem.W.codeIn K cd18 "way_let" = true) (k18 : PySem.W.keepIn K (.ref f18) = true)
    {f19 : Addr} {od19 an19 : Option Addr} {sl19 : Array (Option Value)} {oc19 kV19 dc19 pm19 cd19 ct19 : Value}
    (a19 : PySem.W.nsIn K mainGlobals "way" = some (some (.ref f19)))
    (l19 : K.lookup f19 = some ⟨oc19, od19, .func (PySem.W.fnOf "way" "way" (defArgs (top 9)) (defBody (top 9)) (defScope (top 9)) .none kV19 dc19 pm19 an19 cd19 ct19), sl19⟩) (c19 : PySem.W.codeIn K cd19 "way" = true) (k19 : PySem.W.keepIn K (.ref f19) = true)
    {f20 : Addr} {od20 an20 : Option Addr} {sl20 : Array (Option Value)} {oc20 kV20 dc20 pm20 cd20 ct20 : Value}
    (a20 : PySem.W.nsIn K mainGlobals "gone" = some (some (.ref f20)))
    (l20 : K.lookup f20 = some ⟨oc20, od20, .func (PySem.W.fnOf "gone" "gone" (defArgs (top 11)) (defBody (top 11)) (defScope (top 11)) .none kV20 dc20 pm20 an20 cd20 ct20), sl20⟩) (c20 : PySem.W.codeIn K cd20 "gone" = true) (k20 : PySem.W.keepIn K (.ref f20) = true)
    {f21 : Addr} {od21 an21 : Option Addr} {sl21 : Array (Option Value)} {oc21 kV21 dc21 pm21 cd21 ct21 : Value}
    (a21 : PySem.W.nsIn K mainGlobals "may_go" = some (some (.ref f21)))
    (l21 : K.lookup f21 = some ⟨oc21, od21, .func (PySem.W.fnOf "may_go" "may_go" (defArgs (top 8)) (defBody (top 8)) (defScope (top 8)) .none kV21 dc21 pm21 an21 cd21 ct21), sl21⟩) (c21 : PySem.W.codeIn K cd21 "may_go" = true) (k21 : PySem.W.keepIn K (.ref f21) = true)
    {f22 : Addr} {od22 an22 : Option Addr} {sl22 : Array (Option Value)} {oc22 kV22 dc22 pm22 cd22 ct22 : Value}
    (a22 : PySem.W.nsIn K mainGlobals "is_end" = some (some (.ref f22)))
    (l22 : K.lookup f22 = some ⟨oc22, od22, .func (PySem.W.fnOf "is_end" "is_end" (defArgs (top 13)) (defBody (top 13)) (defScope (top 13)) .none kV22 dc22 pm22 an22 cd22 ct22), sl22⟩) (c22 : PySem.W.codeIn K cd22 "is_end" = true) (k22 : PySem.W.keepIn K (.ref f22) = true)
    {f23 : Addr} {od23 an23 : Option Addr} {sl23 : Array (Option Value)} {oc23 kV23 dc23 pm23 cd23 ct23 : Value}
    (a23 : PySem.W.nsIn K mainGlobals "is_sorted" = some (some (.ref f23)))
    (l23 : K.lookup f23 = some ⟨oc23, od23, .func (PySem.W.fnOf "is_sorted" "is_sorted" (defArgs (top 14)) (defBody (top 14)) (defScope (top 14)) .none kV23 dc23 pm23 an23 cd23 ct23), sl23⟩) (c23 : PySem.W.codeIn K cd23 "is_sorted" = true) (k23 : PySem.W.keepIn K (.ref f23) = true)
    {f24 : Addr} {od24 an24 : Option Addr} {sl24 : Array (Option Value)} {oc24 kV24 dc24 pm24 cd24 ct24 : Value}
    (a24 : PySem.W.nsIn K mainGlobals "witnesses" = some (some (.ref f24)))
    (l24 : K.lookup f24 = some ⟨oc24, od24, .func (PySem.W.fnOf "witnesses" "witnesses" (defArgs (top 15)) (defBody (top 15)) (defScope (top 15)) .none kV24 dc24 pm24 an24 cd24 ct24), sl24⟩) (c24 : PySem.W.codeIn K cd24 "witnesses" = true) (k24 : PySem.W.keepIn K (.ref f24) = true)
    {f25 : Addr} {od25 an25 : Option Addr} {sl25 : Array (Option Value)} {oc25 kV25 dc25 pm25 cd25 ct25 : Value}
    (a25 : PySem.W.nsIn K mainGlobals "unwell" = some (some (.ref f25)))
    (l25 : K.lookup f25 = some ⟨oc25, od25, .func (PySem.W.fnOf "unwell" "unwell" (defArgs (top 16)) (defBody (top 16)) (defScope (top 16)) .none kV25 dc25 pm25 an25 cd25 ct25), sl25⟩) (c25 : PySem.W.codeIn K cd25 "unwell" = true) (k25 : PySem.W.keepIn K (.ref f25) = true)
    {f26 : Addr} {od26 an26 : Option Addr} {sl26 : Array (Option Value)} {oc26 kV26 dc26 pm26 cd26 ct26 : Value}
    (a26 : PySem.W.nsIn K mainGlobals "is_well" = some (some (.ref f26)))
    (l26 : K.lookup f26 = some ⟨oc26, od26, .func (PySem.W.fnOf "is_well" "is_well" (defArgs (top 17)) (defBody (top 17)) (defScope (top 17)) .none kV26 dc26 pm26 an26 cd26 ct26), sl26⟩) (c26 : PySem.W.codeIn K cd26 "is_well" = true) (k26 : PySem.W.keepIn K (.ref f26) = true)
    {f27 : Addr} {od27 an27 : Option Addr} {sl27 : Array (Option Value)} {oc27 kV27 dc27 pm27 cd27 ct27 : Value}
    (a27 : PySem.W.nsIn K mainGlobals "_law_right" = some (some (.ref f27)))
    (l27 : K.lookup f27 = some ⟨oc27, od27, .func (PySem.W.fnOf "_law_right" "_law_right" (defArgs (top 36)) (defBody (top 36)) (defScope (top 36)) .none kV27 dc27 pm27 an27 cd27 ct27), sl27⟩) (c27 : PySem.W.codeIn K cd27 "_law_right" = true) (k27 : PySem.W.keepIn K (.ref f27) = true)
    {f28 : Addr} {od28 an28 : Option Addr} {sl28 : Array (Option Value)} {oc28 kV28 dc28 pm28 cd28 ct28 : Value}
    (a28 : PySem.W.nsIn K mainGlobals "_law_tape" = some (some (.ref f28)))
    (l28 : K.lookup f28 = some ⟨oc28, od28, .func (PySem.W.fnOf "_law_tape" "_law_tape" (defArgs (top 19)) (defBody (top 19)) (defScope (top 19)) .none kV28 dc28 pm28 an28 cd28 ct28), sl28⟩) (c28 : PySem.W.codeIn K cd28 "_law_tape" = true) (k28 : PySem.W.keepIn K (.ref f28) = true)
    {f29 : Addr} {od29 an29 : Option Addr} {sl29 : Array (Option Value)} {oc29 kV29 dc29 pm29 cd29 ct29 : Value}
    (a29 : PySem.W.nsIn K mainGlobals "law" = some (some (.ref f29)))
    (l29 : K.lookup f29 = some ⟨oc29, od29, .func (PySem.W.fnOf "law" "law" (defArgs (top 37)) (defBody (top 37)) (defScope (top 37)) .none kV29 dc29 pm29 an29 cd29 ct29), sl29⟩) (c29 : PySem.W.codeIn K cd29 "law" = true) (k29 : PySem.W.keepIn K (.ref f29) = true)
    (z_abs : PySem.W.nsIn K mainGlobals "abs" = some none)
    (z_all : PySem.W.nsIn K mainGlobals "all" = some none)
    (z_bool : PySem.W.nsIn K mainGlobals "bool" = some none)
    (z_dict : PySem.W.nsIn K mainGlobals "dict" = some none)
    (z_enumerate : PySem.W.nsIn K mainGlobals "enumerate" = some none)
    (z_int : PySem.W.nsIn K mainGlobals "int" = some none)
    (z_isinstance : PySem.W.nsIn K mainGlobals "isinstance" = some none)
    (z_len : PySem.W.nsIn K mainGlobals "len" = some none)
    (z_list : PySem.W.nsIn K mainGlobals "list" = some none)
    (z_max : PySem.W.nsIn K mainGlobals "max" = some none)
    (z_min : PySem.W.nsIn K mainGlobals "min" = some none)
    (z_range : PySem.W.nsIn K mainGlobals "range" = some none)
    (z_sorted : PySem.W.nsIn K mainGlobals "sorted" = some none)
    (z_str : PySem.W.nsIn K mainGlobals "str" = some none)
    (z_tuple : PySem.W.nsIn K mainGlobals "tuple" = some none)
    (z_zip : PySem.W.nsIn K mainGlobals "zip" = some none)
    {t_BACK : Nat} (g_BACK : PySem.W.nsIn K mainGlobals "BACK" = some (some (.str (PySem.Str.ofString "back") t_BACK)))
    {t_FORTH : Nat} (g_FORTH : PySem.W.nsIn K mainGlobals "FORTH" = some (some (.str (PySem.Str.ofString "forth") t_FORTH)))
    (nl_0 : PySem.W.nsIn K mainGlobals "came_at" = some none)
    (nl_1 : PySem.W.nsIn K mainGlobals "tail" = some none)
    : ∃ fd : FuncData, (∀ (s : Shared) (v : Value), BindsTo s fd ⟨[v], []⟩ [("_law_script", v)]) ∧ (∀ y ∈ lamNames, PySem.W.nsIn K mainGlobals y = some none) ∧ ∀ base : Heap, K.In base → base.Ns mainGlobals mg → Y.FnOk l.prog w K mg base (L2.CX l.prog w) 11 fa fd ["_law_script"] (spY K (clK K) false 1 fn_law) := by
  have e := hfa.symm.trans (PySem.W.mg_of X G a29)
  cases e
  have F0 := fun_mk (st := (top 21)) l0 c0 k0
  have F1 := fun_mk (st := (top 29)) l1 c1 k1
  have F2 := fun_mk (st := (top 20)) l2 c2 k2
  have F3 := fun_mk (st := (top 35)) l3 c3 k3
  have F4 := fun_mk (st := (top 23)) l4 c4 k4
  have F5 := fun_mk (st := (top 30)) l5 c5 k5
  have F6 := fun_mk (st := (top 24)) l6 c6 k6
  have F7 := fun_mk (st := (top 25)) l7 c7 k7
  have F8 := fun_mk (st := (top 27)) l8 c8 k8
  have F9 := fun_mk (st := (top 26)) l9 c9 k9
  have F10 := fun_mk (st := (top 28)) l10 c10 k10
  have F11 := fun_mk (st := (top 31)) l11 c11 k11
  have F12 := fun_mk (st := (top 34)) l12 c12 k12
  have F13 := fun_mk (st := (top 22)) l13 c13 k13
  have F14 := fun_mk (st := (top 32)) l14 c14 k14
  have F15 := fun_mk (st := (top 33)) l15 c15 k15
  have F16 := fun_mk (st := (top 3)) l16 c16 k16
  have F17 := fun_mk (st := (top 10)) l17 c17 k17
  have F18 := fun_mk (st := (top 7)) l18 c18 k18
  have F19 := fun_mk (st := (top 9)) l19 c19 k19
  have F20 := fun_mk (st := (top 11)) l20 c20 k20
  have F21 := fun_mk (st := (top 8)) l21 c21 k21
  have F22 := fun_mk (st := (top 13)) l22 c22 k22
  have F23 := fun_mk (st := (top 14)) l23 c23 k23
  have F24 := fun_mk (st := (top 15)) l24 c24 k24
  have F25 := fun_mk (st := (top 16)) l25 c25 k25
  have F26 := fun_mk (st := (top 17)) l26 c26 k26
  have F27 := fun_mk (st := (top 36)) l27 c27 k27
  have F28 := fun_mk (st := (top 19)) l28 c28 k28
  have F29 := fun_mk (st := (top 37)) l29 c29 k29
  exact ⟨PySem.W.fnOf "law" "law" (defArgs (top 37)) (defBody (top 37)) (defScope (top 37)) .none kV29 dc29 pm29 an29 cd29 ct29, fun s v => .of_eq rfl, (fun y hy => by
    rcases List.mem_cons.mp hy with rfl | hy
    · exact nl_0
    · rw [List.mem_singleton.mp hy]; exact nl_1), fun base _ _ => ok_law
    { a__law_folded := f0, d__law_folded := _, F__law_folded := F0, b__law_folded := F0.binds fun _ _ _ _ _ _ us hl => match us, hl with | [_, _], _ => rfl, m__law_folded := PySem.W.mg_of X G a0,
      a__law_cells := f1, d__law_cells := _, F__law_cells := F1, b__law_cells := F1.binds fun _ _ _ _ _ _ us hl => match us, hl with | [_, _], _ => rfl, m__law_cells := PySem.W.mg_of X G a1,
      a__law_draw := f2, d__law_draw := _, F__law_draw := F2, b__law_draw := F2.binds fun _ _ _ _ _ _ us hl => match us, hl with | [_, _], _ => rfl, m__law_draw := PySem.W.mg_of X G a2,
      a__law_ends_all := f3, d__law_ends_all := _, F__law_ends_all := F3, b__law_ends_all := F3.binds fun _ _ _ _ _ _ us hl => match us, hl with | [_], _ => rfl, m__law_ends_all := PySem.W.mg_of X G a3,
      a__law_of := f4, d__law_of := _, F__law_of := F4, b__law_of := F4.binds fun _ _ _ _ _ _ us hl => match us, hl with | [_, _], _ => rfl, m__law_of := PySem.W.mg_of X G a4,
      a__law_dealt := f5, d__law_dealt := _, F__law_dealt := F5, b__law_dealt := F5.binds fun _ _ _ _ _ _ us hl => match us, hl with | [_, _, _], _ => rfl, m__law_dealt := PySem.W.mg_of X G a5,
      a__law_folk := f6, d__law_folk := _, F__law_folk := F6, b__law_folk := F6.binds fun _ _ _ _ _ _ us hl => match us, hl with | [_, _], _ => rfl, m__law_folk := PySem.W.mg_of X G a6,
      a__law_new := f7, d__law_new := _, F__law_new := F7, b__law_new := F7.binds fun _ _ _ _ _ _ us hl => match us, hl with | [_, _], _ => rfl, m__law_new := PySem.W.mg_of X G a7,
      a__law_behind := f8, d__law_behind := _, F__law_behind := F8, b__law_behind := F8.binds fun _ _ _ _ _ _ us hl => match us, hl with | [_, _], _ => rfl, m__law_behind := PySem.W.mg_of X G a8,
      a__law_steps := f9, d__law_steps := _, F__law_steps := F9, b__law_steps := F9.binds fun _ _ _ _ _ _ us hl => match us, hl with | [_], _ => rfl, m__law_steps := PySem.W.mg_of X G a9,
      a__law_walk := f10, d__law_walk := _, F__law_walk := F10, b__law_walk := F10.binds fun _ _ _ _ _ _ us hl => match us, hl with | [_, _, _], _ => rfl, m__law_walk := PySem.W.mg_of X G a10,
      a__law_house := f11, d__law_house := _, F__law_house := F11, b__law_house := F11.binds fun _ _ _ _ _ _ us hl => match us, hl with | [_, _, _], _ => rfl, m__law_house := PySem.W.mg_of X G a11,
      a__law_lot := f12, d__law_lot := _, F__law_lot := F12, b__law_lot := F12.binds fun _ _ _ _ _ _ us hl => match us, hl with | [_], _ => rfl, m__law_lot := PySem.W.mg_of X G a12,
      a__law_same := f13, d__law_same := _, F__law_same := F13, b__law_same := F13.binds fun _ _ _ _ _ _ us hl => match us, hl with | [_, _], _ => rfl, m__law_same := PySem.W.mg_of X G a13,
      a__law_seen_by := f14, d__law_seen_by := _, F__law_seen_by := F14, b__law_seen_by := F14.binds fun _ _ _ _ _ _ us hl => match us, hl with | [_, _], _ => rfl, m__law_seen_by := PySem.W.mg_of X G a14,
      a__law_unwell := f15, d__law_unwell := _, F__law_unwell := F15, b__law_unwell := F15.binds fun _ _ _ _ _ _ us hl => match us, hl with | [_], _ => rfl, m__law_unwell := PySem.W.mg_of X G a15,
      a_made := f16, d_made := _, F_made := F16, b_made := F16.binds fun _ _ _ _ _ _ us hl => match us, hl with | [_], _ => rfl, m_made := PySem.W.mg_of X G a16,
      a_moved := f17, d_moved := _, F_moved := F17, b_moved := F17.binds fun _ _ _ _ _ _ us hl => match us, hl with | [_, _, _, _], _ => rfl, m_moved := PySem.W.mg_of X G a17,
      a_way_let := f18, d_way_let := _, F_way_let := F18, b_way_let := F18.binds fun _ _ _ _ _ _ us hl => match us, hl with | [_, _, _], _ => rfl, m_way_let := PySem.W.mg_of X G a18,
      a_way := f19, d_way := _, F_way := F19, b_way := F19.binds fun _ _ _ _ _ _ us hl => match us, hl with | [_, _], _ => rfl, m_way := PySem.W.mg_of X G a19,
      a_gone := f20, d_gone := _, F_gone := F20, b_gone := F20.binds fun _ _ _ _ _ _ us hl => match us, hl with | [_, _], _ => rfl, m_gone := PySem.W.mg_of X G a20,
      a_may_go := f21, d_may_go := _, F_may_go := F21, b_may_go := F21.binds fun _ _ _ _ _ _ us hl => match us, hl with | [_], _ => rfl, m_may_go := PySem.W.mg_of X G a21,
      a_is_end := f22, d_is_end := _, F_is_end := F22, b_is_end := F22.binds fun _ _ _ _ _ _ us hl => match us, hl with | [_], _ => rfl, m_is_end := PySem.W.mg_of X G a22,
      a_is_sorted := f23, d_is_sorted := _, F_is_sorted := F23, b_is_sorted := F23.binds fun _ _ _ _ _ _ us hl => match us, hl with | [_], _ => rfl, m_is_sorted := PySem.W.mg_of X G a23,
      a_witnesses := f24, d_witnesses := _, F_witnesses := F24, b_witnesses := F24.binds fun _ _ _ _ _ _ us hl => match us, hl with | [_, _], _ => rfl, m_witnesses := PySem.W.mg_of X G a24,
      a_unwell := f25, d_unwell := _, F_unwell := F25, b_unwell := F25.binds fun _ _ _ _ _ _ us hl => match us, hl with | [_], _ => rfl, m_unwell := PySem.W.mg_of X G a25,
      a_is_well := f26, d_is_well := _, F_is_well := F26, b_is_well := F26.binds fun _ _ _ _ _ _ us hl => match us, hl with | [_], _ => rfl, m_is_well := PySem.W.mg_of X G a26,
      a__law_right := f27, d__law_right := _, F__law_right := F27, b__law_right := F27.binds fun _ _ _ _ _ _ us hl => match us, hl with | [_], _ => rfl, m__law_right := PySem.W.mg_of X G a27,
      a__law_tape := f28, d__law_tape := _, F__law_tape := F28, b__law_tape := F28.binds fun _ _ _ _ _ _ us hl => match us, hl with | [_, _], _ => rfl, m__law_tape := PySem.W.mg_of X G a28,
      a_law := fa, d_law := _, F_law := F29, b_law := F29.binds fun _ _ _ _ _ _ us hl => match us, hl with | [_], _ => rfl, m_law := PySem.W.mg_of X G a29,
      z_abs := PySem.W.mg_none_of X G z_abs,
      z_all := PySem.W.mg_none_of X G z_all,
      z_bool := PySem.W.mg_none_of X G z_bool,
      z_dict := PySem.W.mg_none_of X G z_dict,
      z_enumerate := PySem.W.mg_none_of X G z_enumerate,
      z_int := PySem.W.mg_none_of X G z_int,
      z_isinstance := PySem.W.mg_none_of X G z_isinstance,
      z_len := PySem.W.mg_none_of X G z_len,
      z_list := PySem.W.mg_none_of X G z_list,
      z_max := PySem.W.mg_none_of X G z_max,
      z_min := PySem.W.mg_none_of X G z_min,
      z_range := PySem.W.mg_none_of X G z_range,
      z_sorted := PySem.W.mg_none_of X G z_sorted,
      z_str := PySem.W.mg_none_of X G z_str,
      z_tuple := PySem.W.mg_none_of X G z_tuple,
      z_zip := PySem.W.mg_none_of X G z_zip,
      t_BACK := t_BACK, g_BACK := PySem.W.mg_of X G g_BACK,
      t_FORTH := t_FORTH, g_FORTH := PySem.W.mg_of X G g_FORTH }⟩
theorem walk {l : PySem.W.OpenLaw} {q : Program} {loose : List Str} {XP : (Str → Option Value) → Heap → Prop} {YP : World → Heap → Prop} {d : DefRec} {K : Params → PySem.W.Frag} (hn : l.most = some 63) (hdf : d.params.defaults = [])
    (hY : ∀ (w : World) (h : Heap), YP w h → (K w.params).In h) (hlaw : ∀ ns : List Int, ns.length ≤ 63 → (∀ z ∈ ns, Builtin.Int.intBits z ≤ 1048576) → ∃ m z, fn_law [(.z (ns.map .i), .c)] = .rt (.b true, m) z)
    (F : ∀ (w : World) (mg : Str → Option Value) (fa : Addr) (h : Heap), (K w.params).In h → h.Ns mainGlobals mg → mg d.name = some (.ref fa) →
      ∃ fd : FuncData, (∀ (s : Shared) (u : Value), BindsTo s fd ⟨[u], []⟩ [("_law_script", u)]) ∧ (∀ y ∈ lamNames, PySem.W.nsIn (K w.params) mainGlobals y = some none) ∧ ∀ base : Heap, (K w.params).In base → base.Ns mainGlobals mg → Y.FnOk l.prog w (K w.params) mg base (L2.CX l.prog w) 11 fa fd ["_law_script"] (spY (K w.params) (clK (K w.params)) false 1 fn_law)) :
    PySem.W.WalkO q loose XP YP l.row.toRowW d [] (fun f vs => PySem.call f vs) :=
  Y.walk_ofG (n := 63) (k := 11) (x := "_law_script") (CX := fun w => L2.CX l.prog w) (sp := fun w => spY (K w.params) (clK (K w.params)) false 1 fn_law) hn (by decide) hdf ⟨rfl, by decide, by decide⟩ hY F (fun w nl H a ns h1 h2 h3 h4 => law_in (hlaw ns h1 h2) h3 (tabs_none nl) h4) fun w H s e s2 z => cx_never z
local macro_rules
  | `(tactic| simp_arith [$xs,*]) => `(tactic| try simp only [↓wO_some, ↓wO_none, ↓wL_some, ↓wL_none, ↓wG_some, ↓wK_some, ↓wK_none, ↓setK_0, ↓setK_s, ↓wB_t, ↓wB_f, ↓wG_0, ↓wG_s, ↓isC_0, ↓isC_1, ↓isC_2, ↓isC_s, ↓allC_n, ↓allC_d, ↓allC_v, ↓frzK_n, ↓frzK_d, ↓frzK_c, ↓frzK_w, ↓wX_0, ↓wX_s, ↓wZ_c, ↓wZ_i, ↓wZ_b, ↓wZ_u, ↓wZ_n, ↓wZ_l, ↓wZ_t, ↓wM_c, ↓wM_i, ↓wM_b, ↓wM_u, ↓wM_n, ↓wM_a, ↓wM_lc, ↓wM_lt, ↓wM_tc, ↓wLk_n, ↓wLk_d, ↓wLk_v, ↓wA_nil, ↓wA_e, ↓wA_v, ↓wE_K, ↓wE_V, ↓wE_P, ↓wE_C, ↓wE_CK, ↓wE_CI, ↓wE_CM, ↓wE_If, ↓wE_And, ↓wE_Or, ↓wE_Not, ↓wE_Lc, ↓wP_none, ↓wP_some, ↓wT_Te, ↓wT_Not, ↓wT_And, ↓wT_Or, ↓wT_Yes, ↓wI_S, ↓wS_nx, ↓wS_bk, ↓wS_ct, ↓wS_no, ↓wS_asg, ↓wS_expr, ↓wS_ret, ↓wS_retV, ↓wS_retN, ↓wS_if, ↓wLen_0, ↓wLen_s, ↓wK_tgV, ↓wK_tgI, ↓wK_tgT, ↓wK_tgTl, ↓wK_tgTz, ↓wK_tgs0, ↓wK_tgs, ↓isL_0, ↓isL_s, ↓wS_app, ↓wH_nil, ↓wH_cons, ↓wS_par, ↓wK_put0, ↓wK_put, ↓wS_aug, ↓wFn_mk, ↓wFn_mkI, ↓wAt_0, ↓wSt_0, ↓wAt_1, ↓wSt_1, ↓wAt_2, ↓wSt_2, ↓wAt_3, ↓wSt_3, ↓wAt_4, ↓wSt_4, ↓wAt_5, ↓wSt_5, ↓wAt_6, ↓wSt_6, ↓wAt_7, ↓wSt_7, ↓isT_n_list, ↓isT_b_list, ↓isT_i_list, ↓isT_s_list, ↓isT_t_list, ↓isT_l_list, ↓isT_z_list, ↓isT_n_tuple, ↓isT_b_tuple, ↓isT_i_tuple, ↓isT_s_tuple, ↓isT_t_tuple, ↓isT_l_tuple, ↓isT_z_tuple, ↓isT_n_str, ↓isT_b_str, ↓isT_i_str, ↓isT_s_str, ↓isT_t_str, ↓isT_l_str, ↓isT_z_str, ↓isT_n_bool, ↓isT_b_bool, ↓isT_i_bool, ↓isT_s_bool, ↓isT_t_bool, ↓isT_l_bool, ↓isT_z_bool, ↓isT_n_int, ↓isT_b_int, ↓isT_i_int, ↓isT_s_int, ↓isT_t_int, ↓isT_l_int, ↓isT_z_int, ↓isn_n, ↓isn_b, ↓isn_i, ↓isn_s, ↓isn_t, ↓isn_l, ↓isn_z, ↓wO_add, ↓wO_addL, ↓wO_addT, ↓wO_sub, ↓wO_neg, ↓wO_mul, ↓wO_mulL, ↓wO_mod, ↓wO_div, ↓wO_pow, ↓wO_lt, ↓wO_le, ↓wO_gt, ↓wO_ge, ↓wO_eqI, ↓wO_neI, ↓wO_eqB, ↓wO_neB, ↓wO_eqS, ↓wO_neS, ↓wO_ixL, ↓wO_ixT, ↓wO_ixZ, ↓wO_lst, ↓wO_tup, ↓wO_lenL, ↓wO_lenT, ↓wO_lenZ, ↓wO_listL, ↓wO_listT, ↓wO_listZ, ↓wO_tupL, ↓wO_tupT, ↓wO_abs, ↓wO_max2, ↓wO_min2, ↓wO_intI, ↓wO_intB, ↓wO_sum, ↓wO_all, ↓wO_any, ↓isP_n, ↓isP_b, ↓isP_i, ↓isP_s, ↓isP_t, ↓isP_l, ↓isP_z, ↓wO_isi, ↓wO_isN, ↓wO_notN, ↓wO_revL, ↓wL_rng1, ↓wL_rng2, ↓wL_seqL, ↓wL_seqT, ↓wL_seqZ, ↓wL_enumL, ↓wL_zipL, ↓wL_zipT, ↓wO_apT, ↓wO_apA, ↓wO_stT, ↓wE_Sl, ↓wO_slL, ↓wO_slZ, ↓wO_slT, ↓wO_max1, ↓wO_min1, ↓wO_max1T, ↓wO_min1T, ↓wAt_last, ↓wE_LstO, ↓wEx_l, ↓wS_ext, ↓wPo_t, ↓wE_pop, ↓wP0_t, ↓wE_pop0, ↓wKs_n, ↓wKs_c, ↓wAj_0, ↓wAj_1, ↓wAj_2, ↓wUp_n, ↓wUp_c, ↓wC2_i, ↓wC1_1, ↓wE_Ch, ↓zfl_c, ↓zfl_lt, ↓zfl_a, ↓wO_mulT, ↓wL_enumT, ↓wO_eqN, ↓flat_pr1, ↓wM_hs, ↓wM_pr, ↓wE_Lc2, ↓wO_notB, ↓wO_isB, ↓okE_0, ↓okE_s, ↓ownE_0, ↓ownE_s, ↓flS_n, ↓flS_s, ↓allS_n, ↓allS_s, ↓wE_MtV, ↓wE_MtE, ↓isLd_l, ↓wZ_pr, ↓wZ_hs, ↓wE_Me, ↓wTl_c, ↓wFn_fnMk, ↓wR_nil, ↓wR_fld, ↓wR_st, ↓wS_forH, ↓wO_divmod, ↓wO_lrg, ↓nobL_i, ↓nobL_rm, ↓nobL_lm, ↓nob_t, ↓nob_l, ↓nob_z, ↓nob_i, ↓nob_b, ↓nob_s, ↓nob_n, ↓nobL_0, ↓nobL_c, ↓nobE_n, ↓nobE_c, ↓nobE_0, ↓con_0, ↓wS_raise1, ↓wS_raise0, ↓isn_x, ↓wO_iscN, ↓wO_lr1, ↓wO_lr2, ↓tru_n, ↓tru_t, ↓tru_l, ↓wTr_t, ↓wTr_f, ↓wE_OrT, ↓wO_lz, ↓wO_revT, ↓wO_lenSetD, ↓wO_srtSet, ↓wT_If, ↓wE_SlZ, ↓wE_Dc, ↓coldE_nil, ↓coldE_n, ↓coldE_s, ↓wO_minO, ↓wE_Vo, ↓wE_TupO, ↓wIA_t, ↓wE_IxA, ↓wIn0_n, ↓wIn0_c, ↓wL_rng3, ↓wIx2_l, ↓wE_Ix2, ↓wK_tgD, ↓wE_dnew, ↓wK_tgTO, ↓wK_tgsO0, ↓wK_tgsO, ↓isM_0, ↓isM_s, ↓ownV_l, ↓ownV_m, ↓ownV_i, ↓wE_DcE, ↓wE_Dc2, ↓wO_rev0T, ↓wE_Pk, ↓wO_srtSetL, ↓wOb_o, ↓wOb_c, ↓okO_e, ↓wE_lendO, ↓wE_MeI, ↓wFn_mkO, ↓wK_tgF, ↓wK_tgFD, ↓wS_delF, ↓wS_fin, ↓mixE_0, ↓mixE_cc, ↓mixE_ct, ↓mixE_ca, ↓mixE_cn, ↓okX_e, ↓okZ_0, ↓okZ_cc, ↓okZ_ct, ↓okZ_ca, ↓okZ_cn, ↓allB_0, ↓allB_c, ↓wS_fApp, ↓wS_fPop, ↓wL_enumK, ↓wL_enumKT, ↓wO_sumL, ↓wE_ddisp1, ↓wE_words, ↓wO_srtB, ↓wInK_n, ↓wInK_c, ↓wO_kIx, ↓wO_kIn, ↓wO_kNin, ↓wO_kGet, ↓wO_kGet2, ↓wO_lenK, ↓wE_Mk, ↓wE_knew, ↓wE_kd1, ↓wK_tgK, ↓isK_0, ↓isK_s, ↓isKs_0, ↓isKs_s, ↓ownV_k, ↓wS_setD, ↓wI_keys, ↓wI_items, ↓wI_itemsE, ↓wI_keysE, ↓wO_listKN, ↓wI_valsM, ↓wL_enumZ, ↓wL_enumZT, ↓wE_sortV, ↓wO_srtSetA, ↓wO_srtSetAT, ↓wO_maxD, ↓wS_rx, ↓wE_lenO, ↓wE_reprO, ↓wO_strI, ↓wE_ixT, ↓wS_retH, ↓wS_finX, ↓wO_isO, ↓wE_mkX1, ↓wE_mkX0, ↓wO_inX, ↓wE_Fz, ↓wO_catZ, ↓wO_catZZ, ↓wI_cst, ↓wE_LcK, ↓wS_kpop, ↓wO_eqK0, wO_some, wO_none, wL_some, wL_none, wG_some, wK_some, wK_none, setK_0, setK_s, wB_t, wB_f, wG_0, wG_s, isC_0, isC_1, isC_2, isC_s, allC_n, allC_d, allC_v, frzK_n, frzK_d, frzK_c, frzK_w, wX_0, wX_s, wZ_c, wZ_i, wZ_b, wZ_u, wZ_n, wZ_l, wZ_t, wM_c, wM_i, wM_b, wM_u, wM_n, wM_a, wM_lc, wM_lt, wM_tc, wLk_n, wLk_d, wLk_v, wA_nil, wA_e, wA_v, wE_K, wE_V, wE_P, wE_C, wE_CK, wE_CI, wE_CM, wE_If, wE_And, wE_Or, wE_Not, wE_Lc, wP_none, wP_some, wT_Te, wT_Not, wT_And, wT_Or, wT_Yes, wI_S, wS_nx, wS_bk, wS_ct, wS_no, wS_asg, wS_expr, wS_ret, wS_retV, wS_retN, wS_if, wLen_0, wLen_s, wK_tgV, wK_tgI, wK_tgT, wK_tgTl, wK_tgTz, wK_tgs0, wK_tgs, isL_0, isL_s, wS_app, wH_nil, wH_cons, wS_par, wK_put0, wK_put, wS_aug, wFn_mk, wFn_mkI, wAt_0, wSt_0, wAt_1, wSt_1, wAt_2, wSt_2, wAt_3, wSt_3, wAt_4, wSt_4, wAt_5, wSt_5, wAt_6, wSt_6, wAt_7, wSt_7, isT_n_list, isT_b_list, isT_i_list, isT_s_list, isT_t_list, isT_l_list, isT_z_list, isT_n_tuple, isT_b_tuple, isT_i_tuple, isT_s_tuple, isT_t_tuple, isT_l_tuple, isT_z_tuple, isT_n_str, isT_b_str, isT_i_str, isT_s_str, isT_t_str, isT_l_str, isT_z_str, isT_n_bool, isT_b_bool, isT_i_bool, isT_s_bool, isT_t_bool, isT_l_bool, isT_z_bool, isT_n_int, isT_b_int, isT_i_int, isT_s_int, isT_t_int, isT_l_int, isT_z_int, isn_n, isn_b, isn_i, isn_s, isn_t, isn_l, isn_z, wO_add, wO_addL, wO_addT, wO_sub, wO_neg, wO_mul, wO_mulL, wO_mod, wO_div, wO_pow, wO_lt, wO_le, wO_gt, wO_ge, wO_eqI, wO_neI, wO_eqB, wO_neB, wO_eqS, wO_neS, wO_ixL, wO_ixT, wO_ixZ, wO_lst, wO_tup, wO_lenL, wO_lenT, wO_lenZ, wO_listL, wO_listT, wO_listZ, wO_tupL, wO_tupT, wO_abs, wO_max2, wO_min2, wO_intI, wO_intB, wO_sum, wO_all, wO_any, isP_n, isP_b, isP_i, isP_s, isP_t, isP_l, isP_z, wO_isi, wO_isN, wO_notN, wO_revL, wL_rng1, wL_rng2, wL_seqL, wL_seqT, wL_seqZ, wL_enumL, wL_zipL, wL_zipT, wO_apT, wO_apA, wO_stT, wE_Sl, wO_slL, wO_slZ, wO_slT, wO_max1, wO_min1, wO_max1T, wO_min1T, wAt_last, wE_LstO, wEx_l, wS_ext, wPo_t, wE_pop, wP0_t, wE_pop0, wKs_n, wKs_c, wAj_0, wAj_1, wAj_2, wUp_n, wUp_c, wC2_i, wC1_1, wE_Ch, zfl_c, zfl_lt, zfl_a, wO_mulT, wL_enumT, wO_eqN, flat_pr1, wM_hs, wM_pr, wE_Lc2, wO_notB, wO_isB, okE_0, okE_s, ownE_0, ownE_s, flS_n, flS_s, allS_n, allS_s, wE_MtV, wE_MtE, isLd_l, wZ_pr, wZ_hs, wE_Me, wTl_c, wFn_fnMk, wR_nil, wR_fld, wR_st, wS_forH, wO_divmod, wO_lrg, nobL_i, nobL_rm, nobL_lm, nob_t, nob_l, nob_z, nob_i, nob_b, nob_s, nob_n, nobL_0, nobL_c, nobE_n, nobE_c, nobE_0, con_0, wS_raise1, wS_raise0, isn_x, wO_iscN, wO_lr1, wO_lr2, tru_n, tru_t, tru_l, wTr_t, wTr_f, wE_OrT, wO_lz, wO_revT, wO_lenSetD, wO_srtSet, wT_If, wE_SlZ, wE_Dc, coldE_nil, coldE_n, coldE_s, wO_minO, wE_Vo, wE_TupO, wIA_t, wE_IxA, wIn0_n, wIn0_c, wL_rng3, wIx2_l, wE_Ix2, wK_tgD, wE_dnew, wK_tgTO, wK_tgsO0, wK_tgsO, isM_0, isM_s, ownV_l, ownV_m, ownV_i, wE_DcE, wE_Dc2, wO_rev0T, wE_Pk, wO_srtSetL, wOb_o, wOb_c, okO_e, wE_lendO, wE_MeI, wFn_mkO, wK_tgF, wK_tgFD, wS_delF, wS_fin, mixE_0, mixE_cc, mixE_ct, mixE_ca, mixE_cn, okX_e, okZ_0, okZ_cc, okZ_ct, okZ_ca, okZ_cn, allB_0, allB_c, wS_fApp, wS_fPop, wL_enumK, wL_enumKT, wO_sumL, wE_ddisp1, wE_words, wO_srtB, wInK_n, wInK_c, wO_kIx, wO_kIn, wO_kNin, wO_kGet, wO_kGet2, wO_lenK, wE_Mk, wE_knew, wE_kd1, wK_tgK, isK_0, isK_s, isKs_0, isKs_s, ownV_k, wS_setD, wI_keys, wI_items, wI_itemsE, wI_keysE, wO_listKN, wI_valsM, wL_enumZ, wL_enumZT, wE_sortV, wO_srtSetA, wO_srtSetAT, wO_maxD, wS_rx, wE_lenO, wE_reprO, wO_strI, wE_ixT, wS_retH, wS_finX, wO_isO, wE_mkX1, wE_mkX0, wO_inX, wE_Fz, wO_catZ, wO_catZZ, wI_cst, wE_LcK, wS_kpop, wO_eqK0, LIM, Int.natCast_one, Int.natCast_zero, castN, castM, cMulL, cMulR, cMul_01, Int.reduceLE, Int.reduceLT, logB, natB, Int.reduceToNat, Int.reducePow, Nat.reducePow, Int.reduceNeg, Int.reduceMul, Int.reduceSub, Int.reduceAdd, Nat.reduceMul, Int.reduceEq, Int.reduceMod, Int.reduceDiv, Nat.zero_le, Nat.le_refl, cold, flat_i, flat_b, flat_rm, flat_pr, flat_hs,  not_true_eq_false, not_false_eq_true, false_implies, implies_true, Bool.true_eq_false, false_and, and_false, wipeE, rsE, List.set_cons_zero, List.set_cons_succ, List.any_cons, List.any_nil, Bool.or_false, Bool.or_true, Bool.true_or, pick, List.getD_cons_zero, List.getD_cons_succ, decide_true, decide_false, eq_self, List.length_append, List.replicate, List.length_cons, List.length_nil, List.length_map, List.map_cons, List.map_nil, List.cons_append, List.nil_append, List.getElem?_cons_zero, List.getElem?_cons_succ, List.getElem?_nil, List.tail_cons, Bool.and_true, Bool.true_and, Bool.and_self, Bool.false_and, Bool.and_false, Bool.true_or, Bool.or_true, Bool.false_or, if_true, if_false, ite_true, ite_false, reduceIte, Bool.false_eq_true, Nat.reduceAdd, Nat.reduceSub, Nat.reduceLT, Nat.reduceLeDiff, true_and, and_true, true_implies, decide_eq_true_eq, decide_eq_false_iff_not, Bool.not_eq_true', Bool.not_eq_false', Nat.zero_add, Nat.sub_self, Nat.sub_zero, Nat.lt_add_one, Nat.zero_lt_succ, reduceCtorEq, Dt.flat, flatL, Bool.not_true, Bool.not_false, $xs,*])
  | `(tactic| simp_arith [$xs,*] at $h:ident) => `(tactic| try simp only [↓wO_some, ↓wO_none, ↓wL_some, ↓wL_none, ↓wG_some, ↓wK_some, ↓wK_none, ↓setK_0, ↓setK_s, ↓wB_t, ↓wB_f, ↓wG_0, ↓wG_s, ↓isC_0, ↓isC_1, ↓isC_2, ↓isC_s, ↓allC_n, ↓allC_d, ↓allC_v, ↓frzK_n, ↓frzK_d, ↓frzK_c, ↓frzK_w, ↓wX_0, ↓wX_s, ↓wZ_c, ↓wZ_i, ↓wZ_b, ↓wZ_u, ↓wZ_n, ↓wZ_l, ↓wZ_t, ↓wM_c, ↓wM_i, ↓wM_b, ↓wM_u, ↓wM_n, ↓wM_a, ↓wM_lc, ↓wM_lt, ↓wM_tc, ↓wLk_n, ↓wLk_d, ↓wLk_v, ↓wA_nil, ↓wA_e, ↓wA_v, ↓wE_K, ↓wE_V, ↓wE_P, ↓wE_C, ↓wE_CK, ↓wE_CI, ↓wE_CM, ↓wE_If, ↓wE_And, ↓wE_Or, ↓wE_Not, ↓wE_Lc, ↓wP_none, ↓wP_some, ↓wT_Te, ↓wT_Not, ↓wT_And, ↓wT_Or, ↓wT_Yes, ↓wI_S, ↓wS_nx, ↓wS_bk, ↓wS_ct, ↓wS_no, ↓wS_asg, ↓wS_expr, ↓wS_ret, ↓wS_retV, ↓wS_retN, ↓wS_if, ↓wLen_0, ↓wLen_s, ↓wK_tgV, ↓wK_tgI, ↓wK_tgT, ↓wK_tgTl, ↓wK_tgTz, ↓wK_tgs0, ↓wK_tgs, ↓isL_0, ↓isL_s, ↓wS_app, ↓wH_nil, ↓wH_cons, ↓wS_par, ↓wK_put0, ↓wK_put, ↓wS_aug, ↓wFn_mk, ↓wFn_mkI, ↓wAt_0, ↓wSt_0, ↓wAt_1, ↓wSt_1, ↓wAt_2, ↓wSt_2, ↓wAt_3, ↓wSt_3, ↓wAt_4, ↓wSt_4, ↓wAt_5, ↓wSt_5, ↓wAt_6, ↓wSt_6, ↓wAt_7, ↓wSt_7, ↓isT_n_list, ↓isT_b_list, ↓isT_i_list, ↓isT_s_list, ↓isT_t_list, ↓isT_l_list, ↓isT_z_list, ↓isT_n_tuple, ↓isT_b_tuple, ↓isT_i_tuple, ↓isT_s_tuple, ↓isT_t_tuple, ↓isT_l_tuple, ↓isT_z_tuple, ↓isT_n_str, ↓isT_b_str, ↓isT_i_str, ↓isT_s_str, ↓isT_t_str, ↓isT_l_str, ↓isT_z_str, ↓isT_n_bool, ↓isT_b_bool, ↓isT_i_bool, ↓isT_s_bool, ↓isT_t_bool, ↓isT_l_bool, ↓isT_z_bool, ↓isT_n_int, ↓isT_b_int, ↓isT_i_int, ↓isT_s_int, ↓isT_t_int, ↓isT_l_int, ↓isT_z_int, ↓isn_n, ↓isn_b, ↓isn_i, ↓isn_s, ↓isn_t, ↓isn_l, ↓isn_z, ↓wO_add, ↓wO_addL, ↓wO_addT, ↓wO_sub, ↓wO_neg, ↓wO_mul, ↓wO_mulL, ↓wO_mod, ↓wO_div, ↓wO_pow, ↓wO_lt, ↓wO_le, ↓wO_gt, ↓wO_ge, ↓wO_eqI, ↓wO_neI, ↓wO_eqB, ↓wO_neB, ↓wO_eqS, ↓wO_neS, ↓wO_ixL, ↓wO_ixT, ↓wO_ixZ, ↓wO_lst, ↓wO_tup, ↓wO_lenL, ↓wO_lenT, ↓wO_lenZ, ↓wO_listL, ↓wO_listT, ↓wO_listZ, ↓wO_tupL, ↓wO_tupT, ↓wO_abs, ↓wO_max2, ↓wO_min2, ↓wO_intI, ↓wO_intB, ↓wO_sum, ↓wO_all, ↓wO_any, ↓isP_n, ↓isP_b, ↓isP_i, ↓isP_s, ↓isP_t, ↓isP_l, ↓isP_z, ↓wO_isi, ↓wO_isN, ↓wO_notN, ↓wO_revL, ↓wL_rng1, ↓wL_rng2, ↓wL_seqL, ↓wL_seqT, ↓wL_seqZ, ↓wL_enumL, ↓wL_zipL, ↓wL_zipT, ↓wO_apT, ↓wO_apA, ↓wO_stT, ↓wE_Sl, ↓wO_slL, ↓wO_slZ, ↓wO_slT, ↓wO_max1, ↓wO_min1, ↓wO_max1T, ↓wO_min1T, ↓wAt_last, ↓wE_LstO, ↓wEx_l, ↓wS_ext, ↓wPo_t, ↓wE_pop, ↓wP0_t, ↓wE_pop0, ↓wKs_n, ↓wKs_c, ↓wAj_0, ↓wAj_1, ↓wAj_2, ↓wUp_n, ↓wUp_c, ↓wC2_i, ↓wC1_1, ↓wE_Ch, ↓zfl_c, ↓zfl_lt, ↓zfl_a, ↓wO_mulT, ↓wL_enumT, ↓wO_eqN, ↓flat_pr1, ↓wM_hs, ↓wM_pr, ↓wE_Lc2, ↓wO_notB, ↓wO_isB, ↓okE_0, ↓okE_s, ↓ownE_0, ↓ownE_s, ↓flS_n, ↓flS_s, ↓allS_n, ↓allS_s, ↓wE_MtV, ↓wE_MtE, ↓isLd_l, ↓wZ_pr, ↓wZ_hs, ↓wE_Me, ↓wTl_c, ↓wFn_fnMk, ↓wR_nil, ↓wR_fld, ↓wR_st, ↓wS_forH, ↓wO_divmod, ↓wO_lrg, ↓nobL_i, ↓nobL_rm, ↓nobL_lm, ↓nob_t, ↓nob_l, ↓nob_z, ↓nob_i, ↓nob_b, ↓nob_s, ↓nob_n, ↓nobL_0, ↓nobL_c, ↓nobE_n, ↓nobE_c, ↓nobE_0, ↓con_0, ↓wS_raise1, ↓wS_raise0, ↓isn_x, ↓wO_iscN, ↓wO_lr1, ↓wO_lr2, ↓tru_n, ↓tru_t, ↓tru_l, ↓wTr_t, ↓wTr_f, ↓wE_OrT, ↓wO_lz, ↓wO_revT, ↓wO_lenSetD, ↓wO_srtSet, ↓wT_If, ↓wE_SlZ, ↓wE_Dc, ↓coldE_nil, ↓coldE_n, ↓coldE_s, ↓wO_minO, ↓wE_Vo, ↓wE_TupO, ↓wIA_t, ↓wE_IxA, ↓wIn0_n, ↓wIn0_c, ↓wL_rng3, ↓wIx2_l, ↓wE_Ix2, ↓wK_tgD, ↓wE_dnew, ↓wK_tgTO, ↓wK_tgsO0, ↓wK_tgsO, ↓isM_0, ↓isM_s, ↓ownV_l, ↓ownV_m, ↓ownV_i, ↓wE_DcE, ↓wE_Dc2, ↓wO_rev0T, ↓wE_Pk, ↓wO_srtSetL, ↓wOb_o, ↓wOb_c, ↓okO_e, ↓wE_lendO, ↓wE_MeI, ↓wFn_mkO, ↓wK_tgF, ↓wK_tgFD, ↓wS_delF, ↓wS_fin, ↓mixE_0, ↓mixE_cc, ↓mixE_ct, ↓mixE_ca, ↓mixE_cn, ↓okX_e, ↓okZ_0, ↓okZ_cc, ↓okZ_ct, ↓okZ_ca, ↓okZ_cn, ↓allB_0, ↓allB_c, ↓wS_fApp, ↓wS_fPop, ↓wL_enumK, ↓wL_enumKT, ↓wO_sumL, ↓wE_ddisp1, ↓wE_words, ↓wO_srtB, ↓wInK_n, ↓wInK_c, ↓wO_kIx, ↓wO_kIn, ↓wO_kNin, ↓wO_kGet, ↓wO_kGet2, ↓wO_lenK, ↓wE_Mk, ↓wE_knew, ↓wE_kd1, ↓wK_tgK, ↓isK_0, ↓isK_s, ↓isKs_0, ↓isKs_s, ↓ownV_k, ↓wS_setD, ↓wI_keys, ↓wI_items, ↓wI_itemsE, ↓wI_keysE, ↓wO_listKN, ↓wI_valsM, ↓wL_enumZ, ↓wL_enumZT, ↓wE_sortV, ↓wO_srtSetA, ↓wO_srtSetAT, ↓wO_maxD, ↓wS_rx, ↓wE_lenO, ↓wE_reprO, ↓wO_strI, ↓wE_ixT, ↓wS_retH, ↓wS_finX, ↓wO_isO, ↓wE_mkX1, ↓wE_mkX0, ↓wO_inX, ↓wE_Fz, ↓wO_catZ, ↓wO_catZZ, ↓wI_cst, ↓wE_LcK, ↓wS_kpop, ↓wO_eqK0, wO_some, wO_none, wL_some, wL_none, wG_some, wK_some, wK_none, setK_0, setK_s, wB_t, wB_f, wG_0, wG_s, isC_0, isC_1, isC_2, isC_s, allC_n, allC_d, allC_v, frzK_n, frzK_d, frzK_c, frzK_w, wX_0, wX_s, wZ_c, wZ_i, wZ_b, wZ_u, wZ_n, wZ_l, wZ_t, wM_c, wM_i, wM_b, wM_u, wM_n, wM_a, wM_lc, wM_lt, wM_tc, wLk_n, wLk_d, wLk_v, wA_nil, wA_e, wA_v, wE_K, wE_V, wE_P, wE_C, wE_CK, wE_CI, wE_CM, wE_If, wE_And, wE_Or, wE_Not, wE_Lc, wP_none, wP_some, wT_Te, wT_Not, wT_And, wT_Or, wT_Yes, wI_S, wS_nx, wS_bk, wS_ct, wS_no, wS_asg, wS_expr, wS_ret, wS_retV, wS_retN, wS_if, wLen_0, wLen_s, wK_tgV, wK_tgI, wK_tgT, wK_tgTl, wK_tgTz, wK_tgs0, wK_tgs, isL_0, isL_s, wS_app, wH_nil, wH_cons, wS_par, wK_put0, wK_put, wS_aug, wFn_mk, wFn_mkI, wAt_0, wSt_0, wAt_1, wSt_1, wAt_2, wSt_2, wAt_3, wSt_3, wAt_4, wSt_4, wAt_5, wSt_5, wAt_6, wSt_6, wAt_7, wSt_7, isT_n_list, isT_b_list, isT_i_list, isT_s_list, isT_t_list, isT_l_list, isT_z_list, isT_n_tuple, isT_b_tuple, isT_i_tuple, isT_s_tuple, isT_t_tuple, isT_l_tuple, isT_z_tuple, isT_n_str, isT_b_str, isT_i_str, isT_s_str, isT_t_str, isT_l_str, isT_z_str, isT_n_bool, isT_b_bool, isT_i_bool, isT_s_bool, isT_t_bool, isT_l_bool, isT_z_bool, isT_n_int, isT_b_int, isT_i_int, isT_s_int, isT_t_int, isT_l_int, isT_z_int, isn_n, isn_b, isn_i, isn_s, isn_t, isn_l, isn_z, wO_add, wO_addL, wO_addT, wO_sub, wO_neg, wO_mul, wO_mulL, wO_mod, wO_div, wO_pow, wO_lt, wO_le, wO_gt, wO_ge, wO_eqI, wO_neI, wO_eqB, wO_neB, wO_eqS, wO_neS, wO_ixL, wO_ixT, wO_ixZ, wO_lst, wO_tup, wO_lenL, wO_lenT, wO_lenZ, wO_listL, wO_listT, wO_listZ, wO_tupL, wO_tupT, wO_abs, wO_max2, wO_min2, wO_intI, wO_intB, wO_sum, wO_all, wO_any, isP_n, isP_b, isP_i, isP_s, isP_t, isP_l, isP_z, wO_isi, wO_isN, wO_notN, wO_revL, wL_rng1, wL_rng2, wL_seqL, wL_seqT, wL_seqZ, wL_enumL, wL_zipL, wL_zipT, wO_apT, wO_apA, wO_stT, wE_Sl, wO_slL, wO_slZ, wO_slT, wO_max1, wO_min1, wO_max1T, wO_min1T, wAt_last, wE_LstO, wEx_l, wS_ext, wPo_t, wE_pop, wP0_t, wE_pop0, wKs_n, wKs_c, wAj_0, wAj_1, wAj_2, wUp_n, wUp_c, wC2_i, wC1_1, wE_Ch, zfl_c, zfl_lt, zfl_a, wO_mulT, wL_enumT, wO_eqN, flat_pr1, wM_hs, wM_pr, wE_Lc2, wO_notB, wO_isB, okE_0, okE_s, ownE_0, ownE_s, flS_n, flS_s, allS_n, allS_s, wE_MtV, wE_MtE, isLd_l, wZ_pr, wZ_hs, wE_Me, wTl_c, wFn_fnMk, wR_nil, wR_fld, wR_st, wS_forH, wO_divmod, wO_lrg, nobL_i, nobL_rm, nobL_lm, nob_t, nob_l, nob_z, nob_i, nob_b, nob_s, nob_n, nobL_0, nobL_c, nobE_n, nobE_c, nobE_0, con_0, wS_raise1, wS_raise0, isn_x, wO_iscN, wO_lr1, wO_lr2, tru_n, tru_t, tru_l, wTr_t, wTr_f, wE_OrT, wO_lz, wO_revT, wO_lenSetD, wO_srtSet, wT_If, wE_SlZ, wE_Dc, coldE_nil, coldE_n, coldE_s, wO_minO, wE_Vo, wE_TupO, wIA_t, wE_IxA, wIn0_n, wIn0_c, wL_rng3, wIx2_l, wE_Ix2, wK_tgD, wE_dnew, wK_tgTO, wK_tgsO0, wK_tgsO, isM_0, isM_s, ownV_l, ownV_m, ownV_i, wE_DcE, wE_Dc2, wO_rev0T, wE_Pk, wO_srtSetL, wOb_o, wOb_c, okO_e, wE_lendO, wE_MeI, wFn_mkO, wK_tgF, wK_tgFD, wS_delF, wS_fin, mixE_0, mixE_cc, mixE_ct, mixE_ca, mixE_cn, okX_e, okZ_0, okZ_cc, okZ_ct, okZ_ca, okZ_cn, allB_0, allB_c, wS_fApp, wS_fPop, wL_enumK, wL_enumKT, wO_sumL, wE_ddisp1, wE_words, wO_srtB, wInK_n, wInK_c, wO_kIx, wO_kIn, wO_kNin, wO_kGet, wO_kGet2, wO_lenK, wE_Mk, wE_knew, wE_kd1, wK_tgK, isK_0, isK_s, isKs_0, isKs_s, ownV_k, wS_setD, wI_keys, wI_items, wI_itemsE, wI_keysE, wO_listKN, wI_valsM, wL_enumZ, wL_enumZT, wE_sortV, wO_srtSetA, wO_srtSetAT, wO_maxD, wS_rx, wE_lenO, wE_reprO, wO_strI, wE_ixT, wS_retH, wS_finX, wO_isO, wE_mkX1, wE_mkX0, wO_inX, wE_Fz, wO_catZ, wO_catZZ, wI_cst, wE_LcK, wS_kpop, wO_eqK0, LIM, Int.natCast_one, Int.natCast_zero, castN, castM, cMulL, cMulR, cMul_01, Int.reduceLE, Int.reduceLT, logB, natB, Int.reduceToNat, Int.reducePow, Nat.reducePow, Int.reduceNeg, Int.reduceMul, Int.reduceSub, Int.reduceAdd, Nat.reduceMul, Int.reduceEq, Int.reduceMod, Int.reduceDiv, Nat.zero_le, Nat.le_refl, cold, flat_i, flat_b, flat_rm, flat_pr, flat_hs,  not_true_eq_false, not_false_eq_true, false_implies, implies_true, Bool.true_eq_false, false_and, and_false, wipeE, rsE, List.set_cons_zero, List.set_cons_succ, List.any_cons, List.any_nil, Bool.or_false, Bool.or_true, Bool.true_or, pick, List.getD_cons_zero, List.getD_cons_succ, decide_true, decide_false, eq_self, List.length_append, List.replicate, List.length_cons, List.length_nil, List.length_map, List.map_cons, List.map_nil, List.cons_append, List.nil_append, List.getElem?_cons_zero, List.getElem?_cons_succ, List.getElem?_nil, List.tail_cons, Bool.and_true, Bool.true_and, Bool.and_self, Bool.false_and, Bool.and_false, Bool.true_or, Bool.or_true, Bool.false_or, if_true, if_false, ite_true, ite_false, reduceIte, Bool.false_eq_true, Nat.reduceAdd, Nat.reduceSub, Nat.reduceLT, Nat.reduceLeDiff, true_and, and_true, true_implies, decide_eq_true_eq, decide_eq_false_iff_not, Bool.not_eq_true', Bool.not_eq_false', Nat.zero_add, Nat.sub_self, Nat.sub_zero, Nat.lt_add_one, Nat.zero_lt_succ, reduceCtorEq, Dt.flat, flatL, Bool.not_true, Bool.not_false, $xs,*] at $h:ident)
local macro_rules
  | `(tactic| simp_arith! [$xs,*]) => `(tactic| ((try rw [wS_seq]); simp_arith [$xs,*]))
/-- a tape: three numbers; n draws are left -/
def Tp (n : Nat) (t : Dt) : Prop := ∃ a b c : Int, t = .l [.i a, .i b, .i c] ∧ 0 ≤ b ∧ b < 2 ^ 62 ∧ 0 ≤ c ∧ c + n ≤ 2 ^ 30
theorem Tp.zfl {n : Nat} {t : Dt} (h : Tp n t) : Y.zfl (t, .t) = true := by
  obtain ⟨a, b, c, rfl, _⟩ := h
  rfl
theorem Tp.less {n m : Nat} {t : Dt} (h : Tp n t) (q : m ≤ n) : Tp m t := by
  obtain ⟨a, b, c, rfl, h1, h2, h3, h4⟩ := h
  exact ⟨a, b, c, rfl, h1, h2, h3, by omega⟩
theorem folded_ok {ns : List Int} {u : Nat} (h : ns.length ≤ 63) (hu0 : 0 < u) (hu : u ≤ 63) {Q : Vl → Vl → Prop} (q : ∀ cs : List Int, cs.length = min u ns.length → Q (.l (cs.map .i), .t) (.n, .c)) : wFn fn__law_folded [(.z (ns.map .i), .c), (.i u, .c)] Q := by
  simp_arith [↓wS_seq, wS_seq, fn__law_folded, m__law_folded]
  rw [cutD_hi (by omega)]
  refine wS_for' ?_
  simp_arith [↓wS_seq, wS_seq]
  rw [cutD_lh (by omega) (by omega)]
  refine ⟨fun k r => ∃ (cs : List Int) (o o' : Option Vl), cs.length = min u ns.length ∧ r = [some (.z (ns.map .i), .c), some (.i u, .c), some (.l (cs.map .i), .t), o, o'], ⟨ns.take u, none, none, by simp, by simp [List.map_take]⟩, ?_, ?_⟩
  · rintro k z _ hz ⟨cs, o, o', hl, rfl⟩
    obtain ⟨d, hd, rfl⟩ := enumD_mem hz
    have hk := (List.getElem?_eq_some_iff.mp hd).1
    simp only [List.length_take, List.length_drop, List.length_map] at hk
    have hlen : cs.length = u := by omega
    rw [← List.map_drop, ← List.map_take, List.getElem?_map, Option.map_eq_some_iff] at hd
    obtain ⟨c, _, rfl⟩ := hd
    have m0 : 0 ≤ (k : Int) % (u : Int) := Int.emod_nonneg _ (by omega)
    have m1 : (k : Int) % (u : Int) < u := Int.emod_lt_of_pos _ (by omega)
    simp_arith [↓wS_seq, wS_seq]
    refine ⟨by omega, wAt_i m0 (by omega) fun c1 _ => ?_⟩
    simp_arith [↓wS_seq, wS_seq]
    refine ⟨cMul_r (by omega) (by omega), by omega, wSt_i m0 (by omega) ?_⟩
    exact ⟨_, _, _, by simpa using hl, rfl⟩
  · rintro _ ⟨cs, o, o', hl, rfl⟩
    simp_arith [↓wS_seq, wS_seq]
    exact q cs hl
theorem cells_ok {ns : List Int} {u : Nat} (h : ns.length ≤ 63) (hu0 : 0 < u) (hu : u ≤ 63) {Q : Vl → Vl → Prop} (q : ∀ cs : List Int, 0 < cs.length → cs.length ≤ u → Q (.l (cs.map .i), .t) (.n, .c)) : wFn fn__law_cells [(.z (ns.map .i), .c), (.i u, .c)] Q := by
  simp_arith [fn__law_cells, m__law_cells]
  have e : ∀ {Q : Dt → Md → Prop}, wO (fNe [.z (ns.map .i), .l []]) Q = Q (.b (!decide (ns = []))) .c := by
    intro Q
    rw [wO_ne fun z h => by cases h]
    have h1 : shp (.z (ns.map .i)) = true := shp_li ns
    have h2 : eqD (.z (ns.map .i)) (.l []) = decide (ns = []) := eqD_li ns []
    simp only [h1, h2, show shp (.l []) = true from shp_li [], true_and]
  simp_arith [e]
  refine ⟨fun hne => ?_, fun _ => ?_⟩
  · refine folded_ok h hu0 hu fun cs hl => ?_
    have : 0 < ns.length := List.length_pos_iff.mpr hne
    simp_arith [true_and]
    exact q cs (by omega) (by omega)
  · exact q [0] (by simp) (by simp; omega)
theorem draw_ok {n : Nat} {t : Dt} {u : Int} {m : Md} (h : Tp (n + 1) t) (h0 : 0 < u) (h1 : u < 2 ^ 60) {Q : Vl → Vl → Prop} (q : ∀ k t', 0 ≤ k → k < u → Tp n t' → Q (.i k, .c) (t', .t)) : wFn fn__law_draw [(t, .t), (.i u, m)] Q := by
  obtain ⟨a, b, c, rfl, hb0, hb1, hc0, hc1⟩ := h
  simp_arith [↓wS_seq, wS_seq, fn__law_draw, m__law_draw]
  refine ⟨fun h => ⟨h0, ⟨h0, log_ok h0 (by omega)⟩, q _ _ (Int.emod_nonneg _ (by omega)) (Int.emod_lt_of_pos _ h0) ⟨_, _, _, rfl, hb0, hb1, hc0, by omega⟩⟩, fun h => ?_⟩
  have e1 : 0 ≤ (b + 39373 * (c + 1)) ^ 5 % 2147483647 := Int.emod_nonneg _ (by decide)
  have e2 : (b + 39373 * (c + 1)) ^ 5 % 2147483647 < 2147483647 := Int.emod_lt_of_pos _ (by decide)
  generalize (b + 39373 * (c + 1)) ^ 5 % 2147483647 = o at e1 e2 ⊢
  have f1 : 0 ≤ (o + (c + 1)) * (o % 40009 + 7 + (c + 1)) % 2147483629 := Int.emod_nonneg _ (by decide)
  have f2 : (o + (c + 1)) * (o % 40009 + 7 + (c + 1)) % 2147483629 < 2147483629 := Int.emod_lt_of_pos _ (by decide)
  generalize (o + (c + 1)) * (o % 40009 + 7 + (c + 1)) % 2147483629 = w at f1 f2 ⊢
  exact ⟨by omega, cMul_l (by omega) (by omega), h0,
    q _ _ (Int.emod_nonneg _ (by omega)) (Int.emod_lt_of_pos _ h0) ⟨_, _, _, rfl, hb0, hb1, by omega, by omega⟩⟩
def zv (c : HS) : Dt := .z ((nxH c).map fH)
theorem zv_flat (c : HS) : (zv c).flat = true := by unfold zv; simp [Dt.flat, flatL_H]
theorem wZ_zv {c : HS} {ys : List Ag} {r : Ev} {Q : Ev → Prop} : wZ (zv c) ys r Q = Q r := by unfold wZ; rw [if_pos (zv_flat c)]
/-- the ways on that are left -/
def lvL (T : List HS) (c : HS) : List HS := (nxH c).filter fun z => decide (z ∈ T)
def lv (T : List HS) (c : HS) : Dt := .z ((lvL T c).map fH)
theorem lv_flat (T : List HS) (c : HS) : (lv T c).flat = true := by unfold lv; simp [Dt.flat, flatL_H]
section
variable {T : List HS} {g : HS → Dt} {c : HS}
theorem pairs_map (hg : ∀ c, (g c).flat = true) : ∀ T : List HS, pairsN (T.map fun c => .t [fH c, g c]) = some (T.map fH, T.map g)
  | [] => rfl
  | c :: T => by
    rw [List.map_cons, pairsN, if_pos ⟨key_fH.ok c, hg c⟩, pairs_map hg T]
    rfl
theorem keys_nd (nd : T.Nodup) : (keyNs (T.map fH)).Nodup := by
  rw [keyNs_map, List.map_map]
  exact map_nd nd fun x _ y _ e => key_fH.inj x y e
theorem wO_dictH {Q : Dt → Md → Prop} (nd : T.Nodup) (hg : ∀ c, (g c).flat = true) : wO (fDictPN [.l (T.map fun c => .t [fH c, g c])]) Q = Q (.k (T.map fH) (T.map g)) .a := wO_dictPN (pairs_map hg T) (keys_nd nd)
theorem look_map (h : c ∈ T) : lookN (T.map fH) (T.map g) (keyN (fH c)) = some (g c) := by
  induction T with
  | nil => nomatch h
  | cons b T ih =>
    rw [List.map_cons, List.map_cons, lookN]
    by_cases e : keyN (fH b) = keyN (fH c)
    · rw [if_pos e, key_fH.inj _ _ e]
    · rw [if_neg e]
      exact ih ((List.mem_cons.mp h).resolve_left fun z => e (by rw [z]))
theorem in_map (T : List HS) (g : HS → Dt) (c : HS) : (lookN (T.map fH) (T.map g) (keyN (fH c))).isSome = decide (c ∈ T) := by
  induction T with
  | nil => rfl
  | cons b T ih =>
    rw [List.map_cons, List.map_cons, lookN]
    by_cases e : keyN (fH b) = keyN (fH c)
    · rw [if_pos e, key_fH.inj _ _ e]; simp
    · have : ¬ c = b := fun z => e (by rw [z])
      rw [if_neg e, ih]; simp [this]
theorem del_map (T : List HS) (g : HS → Dt) (c : HS) : delN (T.map fH) (T.map g) (keyN (fH c)) = ((T.filter fun b => decide (b ≠ c)).map fH, (T.filter fun b => decide (b ≠ c)).map g) := by
  unfold delN
  have e : (T.map fH).zip (T.map g) = T.map fun b => (fH b, g b) := by rw [List.zip_map']
  have e2 : ((fun p : Dt × Dt => decide (keyN p.1 ≠ keyN (fH c))) ∘ fun b => (fH b, g b)) = fun b => decide (b ≠ c) := by
    funext b
    by_cases h : b = c
    · subst h; simp
    · have : ¬ keyN (fH b) = keyN (fH c) := fun z => h (key_fH.inj _ _ z)
      simp [h, this]
  rw [e, List.filter_map, e2, List.map_map, List.map_map]
  rfl
theorem wO_eqZy {ly : List HS} {Q : Dt → Md → Prop} (h : ∀ c ∈ ly, pl 4 (fH c) = true) : wO (fEq [.z (ly.map fH), .l []]) Q = Q (.b ly.isEmpty) .c := by
  show wO (fEq [.l (ly.map fH), .l []]) Q = _
  rw [wO_eqL, eqD_l0]
  have h1 : shp (.l (ly.map fH)) = true := shp_l (d := 4) (fun x hx => by
    obtain ⟨c, hc, rfl⟩ := List.mem_map.mp hx
    exact h c hc) (by omega)
  have e : (ly.map fH).isEmpty = ly.isEmpty := by cases ly <;> rfl
  simp [h1, shp_nil, e]
theorem flat_lvs (T S : List HS) : flatL (S.map (lv T)) = true := by
  induction S with
  | nil => rfl
  | cons c S ih => simp [flatL, lv_flat, ih]
end
def nC (o : Option Vl) : Prop := ∀ x m, o = some (x, m) → m = .c
theorem nC_c (x : Dt) : nC (some (x, .c)) := fun y m h => by cases h; rfl
theorem nC_set {o : Option Vl} {r : Ev} {i : Nat} (h : nC o) (hr : r[i]? = some none) : (match some o with
    | some (some (x, m)) => if (x.flat || m == Md.c) = true then r.set i (some (x, .c)) else r
    | _ => r) = r.set i o := by
  cases o with
  | none =>
    have hi := (List.getElem?_eq_some_iff.mp hr).1
    refine List.ext_getElem? fun j => ?_
    by_cases e : i = j
    · subst e; rw [List.getElem?_set_self hi, hr]
    · rw [List.getElem?_set_ne e]
  | some xm =>
    obtain ⟨x, m⟩ := xm
    cases h x m rfl
    simp
theorem ends_all_ok {folk : List Int} {d N : Nat} (f : Fk folk) (hd : d ≤ 60) (hN : N ≤ 390) (u : Upto folk d N) {os : List HS} (hos : ∀ c ∈ os, Hou folk d c.1 c.2) (clo : ∀ c ∈ os, ∀ z ∈ nxH c, z ∈ os) (nd : os.Nodup) (hol : os.length ≤ 900000) {Q : Vl → Vl → Prop} (q : Q (.b true, .c) (.n, .c)) :
    wFn fn__law_ends_all [(.k (os.map fH) (os.map zv), .c)] Q := by
  have lim : LIM = 1000000 := rfl
  have fl := f.len
  have plc : ∀ c ∈ os, pl 4 (fH c) = true := fun c hc => (hos c hc).pl f hd (n := 0)
  simp_arith [fn__law_ends_all, m__law_ends_all]
  rw [wS_seq]
  simp_arith [true_and]
  refine ⟨by omega, _, _, lc_mM (fun c => .t [fH c, zv c]) fun c hc => ?_, ?_⟩
  · simp_arith [true_and]
    refine ⟨key_fH.ok c, zv c, look_map hc, ?_⟩
    unfold zv
    simp_arith [true_and]
  · rw [wO_dictH nd zv_flat]
    have ez : os.map zv = os.map (lv os) := List.map_congr_left fun c hc => by
      unfold zv lv lvL
      rw [List.filter_eq_self.mpr fun z hz => decide_eq_true (clo c hc z hz)]
    simp_arith [true_and]
    rw [wS_seq]
    refine wS_for' ?_
    simp_arith [true_and]
    refine ⟨fun k r => ∃ (T : List HS) (o2 o3 o4 : Option Vl), r = [some (.k (os.map fH) (os.map zv), .c), some (.k (T.map fH) (T.map (lv T)), .a), o2, o3, o4, none] ∧ nC o3 ∧ nC o4 ∧ T.Nodup ∧ (∀ c ∈ T, c ∈ os) ∧ T.length ≤ 900000 ∧ ∀ c ∈ T, k ≤ lamH N c,
      ⟨os, none, none, none, by rw [ez], fun x m h => (by cases h), fun x m h => (by cases h), nd, fun _ h => h, hol, fun _ _ => Nat.zero_le _⟩, ?_, ?_⟩
    · rintro k x _ hx ⟨T, o2, o3, o4, rfl, h3, h4, hT, hTo, hTl, hlam⟩
      obtain ⟨rfl, hk⟩ := rngD_at hx
      simp_arith [true_and]
      rw [wS_seq, wS_asg]
      refine wE_lendK rfl ?_ ?_
      · cases o3 with
        | none => cases o4 with
          | none => rfl
          | some xm =>
            obtain ⟨x, m⟩ := xm
            cases h4 x m rfl
            rfl
        | some ym =>
          obtain ⟨y, m'⟩ := ym
          cases h3 y m' rfl
          cases o4 with
          | none => rfl
          | some xm =>
            obtain ⟨x, m⟩ := xm
            cases h4 x m rfl
            rfl
      simp_arith [true_and]
      refine ⟨by omega, _, _, lc_fM (fun c => (lvL T c).isEmpty) fH fun c hc => ?_, ?_⟩
      · simp_arith [true_and]
        refine ⟨key_fH.ok c, lv T c, look_map hc, ?_⟩
        unfold lv
        rw [wO_eqZy (ly := lvL T c) fun z hz => plc z (clo c (hTo c hc) z (List.mem_filter.mp hz).1)]
        simp_arith [true_and]
      refine ⟨flatL_H _, nC_set h4 rfl, ?_⟩
      obtain ⟨ov, hov⟩ : ∃ ov, ov = T.filter fun c => (lvL T c).isEmpty := ⟨_, rfl⟩
      rw [← hov]
      have ovn : ov.Nodup := by rw [hov]; exact hT.filter _
      have ovT : ∀ c ∈ ov, c ∈ T := fun c hc => by rw [hov] at hc; exact (List.mem_filter.mp hc).1
      rw [wS_seq]
      refine wS_for' ?_
      simp_arith [true_and]
      refine ⟨fun j r => ∃ o4, r = [some (.k (os.map fH) (os.map zv), .c), some (.k ((T.filter fun b => decide (b ∉ ov.take j)).map fH) ((T.filter fun b => decide (b ∉ ov.take j)).map (lv T)), .a), some (.i (0 + (k : Int)), .c), some (.l (ov.map fH), .c), o4, none] ∧ nC o4, ⟨o4, by rw [List.take_zero, List.filter_eq_self.mpr fun b _ => by simp], h4⟩, ?_, ?_⟩
      · rintro j x _ hx ⟨o4, rfl, h4⟩
        obtain ⟨c, hj, rfl⟩ : ∃ c, ov[j]? = some c ∧ x = fH c := by
          rw [List.getElem?_map] at hx
          cases hl : ov[j]? with
          | none => rw [hl] at hx; cases hx
          | some c => rw [hl] at hx; cases hx; exact ⟨c, rfl, rfl⟩
        have hjl := (List.getElem?_eq_some_iff.mp hj).1
        have et : ov.take (j + 1) = ov.take j ++ [c] := by rw [List.take_add_one, hj]; rfl
        have cn : c ∉ ov.take j := fun z => by
          have h1 := ovn.sublist (List.take_sublist (j + 1) ov)
          rw [et] at h1
          exact (List.nodup_append.mp h1).2.2 c z c (by simp) rfl
        simp_arith [true_and]
        rw [in_map, del_map]
        have ef : (T.filter fun b => decide (b ∉ ov.take j)).filter (fun b => decide (b ≠ c)) = T.filter fun b => decide (b ∉ ov.take (j + 1)) := by
          rw [List.filter_filter, et]
          refine List.filter_congr fun b _ => ?_
          by_cases h1 : b = c
          · subst h1; simp
          · simp [h1]
        rw [ef]
        exact ⟨key_fH.ok c, decide_eq_true (List.mem_filter.mpr ⟨ovT c (List.mem_of_getElem? hj), decide_eq_true cn⟩), flat_lvs _ _, _, rfl, nC_c _⟩
      rintro _ ⟨o4, rfl, h4⟩
      simp only [List.length_map, List.take_length]
      obtain ⟨T', hT'⟩ : ∃ T', T' = T.filter fun b => decide (b ∉ ov) := ⟨_, rfl⟩
      rw [← hT']
      have sub : ∀ c ∈ T', c ∈ T := fun c hc => by rw [hT'] at hc; exact (List.mem_filter.mp hc).1
      have T'l : T'.length ≤ 900000 := by rw [hT']; exact Nat.le_trans (List.length_filter_le _ _) hTl
      have T'n : T'.Nodup := by rw [hT']; exact hT.filter _
      have lam' : ∀ c ∈ T', k + 1 ≤ lamH N c := fun c hc => by
        have h1 := hc
        rw [hT'] at h1
        obtain ⟨h1, h2⟩ := List.mem_filter.mp h1
        have h2 : c ∉ ov := of_decide_eq_true h2
        rw [hov] at h2
        have h3 : lvL T c ≠ [] := fun e => h2 (List.mem_filter.mpr ⟨h1, by rw [e]; rfl⟩)
        obtain ⟨z, hz⟩ := List.exists_mem_of_ne_nil _ h3
        obtain ⟨z1, z2⟩ := List.mem_filter.mp hz
        have z2 : z ∈ T := of_decide_eq_true z2
        obtain ⟨p, hp, rfl⟩ := List.mem_map.mp z1
        have := lamH_lt f u (hos c (hTo c h1)) hp
        have := hlam _ z2
        omega
      simp_arith [true_and]
      rw [wO_neLy (f := fH) (d := 4) (fun c hc => plc c (hTo c (ovT c hc))) (by omega)]
      simp_arith [true_and]
      refine ⟨fun he => ?_, fun he => ?_⟩
      · refine ⟨by omega, _, _, lc_mM (fun c => .t [fH c, lv T' c]) fun c hc => ?_, ?_⟩
        · have hco := hTo c (sub c hc)
          have sl := steps_two f (hos c hco)
          have hl : (lvL T c).length ≤ (steps c.1 c.2).length := by
            unfold lvL
            refine Nat.le_trans (List.length_filter_le _ _) ?_
            unfold nxH
            rw [List.length_map]
            exact Nat.le_refl _
          simp_arith [true_and]
          refine ⟨key_fH.ok c, lv T c, look_map hc, ?_⟩
          unfold lv
          simp_arith [true_and]
          refine ⟨by omega, _, _, lc_fM (fun z => decide (z ∈ T')) fH fun z hz => ?_, ?_⟩
          · simp_arith [true_and]
            rw [in_map]
            exact ⟨key_fH.ok z, rfl⟩
          · have e1 : (lvL T c).filter (fun z => decide (z ∈ T')) = lvL T' c := by
              unfold lvL
              rw [List.filter_filter]
              refine List.filter_congr fun z _ => ?_
              by_cases h1 : z ∈ T'
              · simp [h1, sub z h1]
              · simp [h1]
            rw [e1]
            simp_arith [true_and]
            rw [fH_flat, flatL_H]
            simp_arith [true_and]
        · rw [wO_dictH T'n (lv_flat T')]
          cases o4 with
          | none =>
            simp_arith [true_and]
            exact ⟨T', _, _, none, rfl, nC_c _, h4, T'n, fun c hc => hTo c (sub c hc), T'l, lam'⟩
          | some xm =>
            obtain ⟨x, m⟩ := xm
            cases h4 x m rfl
            simp_arith [Bool.or_true, beq_self_eq_true]
            exact ⟨T', _, _, some (x, .c), rfl, nC_c _, h4, T'n, fun c hc => hTo c (sub c hc), T'l, lam'⟩
      · have e0 : ov = [] := by simpa using he
        have e1 : T' = T := by
          rw [hT', e0]
          exact List.filter_eq_self.mpr fun b _ => by simp
        rw [e1] at lam' ⊢
        exact ⟨T, _, _, o4, rfl, nC_c _, h4, hT, hTo, hTl, lam'⟩
    · rintro _ ⟨T, o2, o3, o4, rfl, h3, h4, hT, hTo, hTl, hlam⟩
      rw [rngD_len] at hlam
      have e : T = [] := by
        cases T with
        | nil => rfl
        | cons c l =>
          have h1 := hlam c List.mem_cons_self
          have h2 := lamH_le f u (hos c (hTo c List.mem_cons_self))
          have h400 : (400 : Int).toNat ≤ lamH N c := h1
          omega
      subst e
      simp_arith [true_and]
      rw [show dM [] = .m [] [] from rfl, wO_eqK0]
      simp_arith [true_and]
      exact q
theorem of_ok {n : Nat} {t : Dt} {xs : List Dt} {P : Dt → Prop} (h : Tp (n + 1) t) (h0 : 0 < xs.length) (h1 : xs.length ≤ 100000) (hp : ∀ y ∈ xs, P y) {Q : Vl → Vl → Prop} (q : ∀ y t', P y → Tp n t' → Q (y, .c) (t', .t)) : wFn fn__law_of [(t, .t), (.l xs, .c)] Q := by
  simp_arith [fn__law_of, m__law_of]
  refine draw_ok h (by omega) (by omega) fun k t1 a1 b1 h2 => ?_
  simp_arith [h2.zfl]
  refine wAt_P (P := fun y => y ∈ xs) a1 b1 (fun y h => h) fun y hy => ?_
  simp_arith [true_and]
  exact q y t1 (hp y hy) h2
theorem dealt_ok {folk : List Int} {d : Nat} (f : Fk folk) (hd : d ≤ 60) {n : Nat} {t : Dt} (ht : Tp (n + (folk.length + 2 * d)) t) {Q : Vl → Vl → Prop} (q : ∀ R D t', Hou folk d R D → Tp n t' → Q (hs R D, .c) (t', .t)) : wFn fn__law_dealt [(t, .t), (.l (folk.map .i), .c), (.i d, .c)] Q := by
  have hl := f.len
  simp_arith [fn__law_dealt, m__law_dealt]
  simp_arith! [true_and]
  refine ⟨by omega, by rw [rngD_len]; omega, _, _, lc_map (fun _ => .l []) _ _ fun x hx => ?_, ?_⟩
  · obtain ⟨i, hi, rfl⟩ := mem_rngD hx
    simp_arith [List.all_nil]
  · simp_arith [true_and]
    rw [wS_seq]
    refine wS_for' ?_
    simp_arith [true_and]
    refine ⟨fun k r => ∃ (t : Dt) (R : List (List Int)) (o : Option Vl), r = [some (t, .t), some (.l (folk.map .i), .c), some (.i d, .c), some (.l (R.map lm), .a), o, none, none, none, none, none, none] ∧ Pt (d + 1) (folk.take k) R ∧ k ≤ folk.length ∧ Tp (n + (folk.length + 2 * d - k)) t, ⟨t, List.replicate (d + 1) [], none, ?_, by simpa using Pt.nil (d + 1), by omega, ht⟩, ?_, ?_⟩
    · have : (rngD 0 (d + 1 : Int).toNat).map (fun _ => Dt.l []) = (List.replicate (d + 1) []).map lm := by
        rw [List.map_const', rngD_len, List.map_replicate]; rfl
      rw [this]
    · rintro k x _ hx ⟨t, R, o, rfl, h1, h4, h5⟩
      rw [List.getElem?_map, Option.map_eq_some_iff] at hx
      obtain ⟨w, hw, rfl⟩ := hx
      have hk := (List.getElem?_eq_some_iff.mp hw).1
      simp_arith [true_and]
      refine wS_apN ?_
      simp_arith [true_and]
      refine draw_ok (n := n + (folk.length + 2 * d - (k + 1))) (h5.less (by omega)) (by omega) (by omega) fun a t' a0 a1 ht' => ?_
      simp_arith [true_and]
      have hlr := h1.lr
      refine wAj_M a0 (by omega) fun r hr => ?_
      have hrl := h1.rlen (List.mem_of_getElem? hr)
      rw [List.length_take] at hrl
      simp_arith [lm]
      refine ⟨by have : LIM = 1000000 := rfl; omega, t', R.set a.toNat (r ++ [w]), some (.i w, .c), ?_, h1.next f hw hr, by omega, ht'⟩
      rw [show r.map Dt.i ++ [Dt.i w] = (r ++ [w]).map Dt.i by simp, set_lm]
    · rintro _ ⟨t, R, o, rfl, h1, h4, h5⟩
      rw [List.take_length] at h1
      simp_arith [true_and]
      simp_arith! [true_and]
      have eu : Dt.i 0 :: Dt.i 1000000000000 :: [folk.map Dt.i, folk.map Dt.i, folk.map Dt.i, folk.map Dt.i].flatten = (0 :: 1000000000000 :: (folk ++ (folk ++ (folk ++ folk)))).map Dt.i := by simp
      have bu : ∀ a ∈ 0 :: 1000000000000 :: (folk ++ (folk ++ (folk ++ folk))), 0 ≤ a ∧ a < 2 ^ 62 := by
        intro a ha
        simp only [List.mem_cons, List.mem_append, or_self] at ha
        rcases ha with rfl | rfl | ha
        · omega
        · omega
        · have := f.bd a ha; omega
      rw [eu]
      have lu : (0 :: 1000000000000 :: (folk ++ (folk ++ (folk ++ folk)))).length = 2 + folk.length * 4 := by simp; omega
      generalize (0 :: 1000000000000 :: (folk ++ (folk ++ (folk ++ folk)))) = us at bu lu ⊢
      refine ⟨by omega, by simp; omega, ?_⟩
      simp_arith! [true_and]
      refine ⟨by omega, ?_⟩
      refine ⟨by rw [rngD_len]; omega, ?_⟩
      refine lc_inv (P := fun k r acc => ∃ (t : Dt) (ms : List Int), r = [some (t, .t), some (.l (folk.map .i), .c), some (.i d, .c), some (.l (R.map lm), .a), o, some (.l (us.map .i), .t), none, none, none, none, none] ∧ acc = ms.map .i ∧ ms.length = k ∧ (∀ m ∈ ms, -1 ≤ m ∧ m ≤ 2 ^ 62) ∧ k ≤ d ∧ Tp (n + 2 * (d - k)) t) ⟨t, [], rfl, rfl, rfl, by simp, by omega, h5.less (by omega)⟩ ?_ ?_
      · rintro k x _ _ hx ⟨t, ms, rfl, rfl, e1, e2, e3, e4⟩
        obtain ⟨rfl, hk2⟩ := rngD_at hx
        have hk3 : k < d := by omega
        simp_arith [true_and]
        refine of_ok (n := n + 2 * (d - (k + 1)) + 1) (P := fun y => ∃ m ∈ us, y = .i m) (e4.less (by omega)) (by simp; omega) (by simp; omega) (fun y hy => ?_) ?_
        · obtain ⟨m, hm, rfl⟩ := List.mem_map.mp hy
          exact ⟨m, hm, rfl⟩
        · rintro _ t' ⟨m, hm, rfl⟩ ht'
          have := bu m hm
          simp_arith [ht'.zfl]
          refine draw_ok (n := n + 2 * (d - (k + 1))) ht' (by omega) (by omega) fun a t'' a0 a1 ht'' => ?_
          simp_arith [ht''.zfl]
          refine wAt_I (ns := [0, 0, 1, -1]) (P := fun s => -1 ≤ s ∧ s ≤ 1) a0 a1 (by simp) fun s hs => ?_
          simp_arith [true_and]
          refine ⟨t'', ms ++ [m + s], rfl, by simp, by simp [e1], ?_, by omega, ht''⟩
          intro y hy
          rcases List.mem_append.mp hy with hy | hy
          · exact e2 y hy
          · rw [List.mem_singleton.mp hy]; omega
      · rintro ys _ ⟨t, ms, rfl, rfl, e1, e2, e3, e4⟩
        rw [rngD_len] at e1 e3 e4
        simp_arith [true_and]
        simp_arith! [true_and]
        refine ⟨by omega, _, _, lc_mI (fun a => .i (if (if a < 1000000000000 then a else 1000000000000) > 0 then (if a < 1000000000000 then a else 1000000000000) else 0)) fun a ha => ?_, ?_⟩
        · simp_arith [true_and]
        · simp_arith [true_and]
          have hlr := h1.lr
          refine ⟨by omega, _, _, lc_mM (fun rr => .t (rr.map .i)) fun rr hr => ?_, ?_⟩
          · have := h1.rlen hr
            simp_arith [lm]
          · simp_arith [true_and]
            have em : ∀ g : Int → Int, (ms.map fun a => Dt.i (g a)) = (ms.map g).map .i := fun g => by rw [List.map_map]; rfl
            rw [em fun a => if (if a < 1000000000000 then a else 1000000000000) > 0 then (if a < 1000000000000 then a else 1000000000000) else 0]
            simp_arith [true_and]
            refine q R _ t (h1.hou (by simp [e1]) fun m hm => ?_) (e4.less (by omega))
            obtain ⟨z, hz, rfl⟩ := List.mem_map.mp hm
            split <;> split at * <;> omega
theorem folk_ok {n u : Nat} {t : Dt} (h : Tp (n + u + 2) t) (hu : u ≤ 60) {Q : Vl → Vl → Prop} (q : ∀ (ws : List Int) t', ws.length = u → Fk ws → Tp n t' → Q (.l (ws.map .i), .t) (t', .t)) : wFn fn__law_folk [(t, .t), (.i u, .c)] Q := by
  simp_arith [fn__law_folk, m__law_folk]
  simp_arith! [true_and]
  refine draw_ok (n := n + u + 1) h (by omega) (by omega) fun k1 t1 a1 b1 h1 => ?_
  simp_arith [h1.zfl]
  refine draw_ok (n := n + u) h1 (by omega) (by omega) fun k2 t2 a2 b2 h2 => ?_
  simp_arith [h2.zfl]
  refine wAt_I (ns := [0, 0, 999999999000]) (P := fun s => 0 ≤ s ∧ s ≤ 2 ^ 50) a2 b2 (by simp) fun at0 hat => ?_
  simp_arith [true_and]
  simp_arith! [true_and]
  have fin : ∀ s : Int, 1 ≤ s → s ≤ 1000000000 → wS (sSeq (sFor (mS sRng1 [.v 1]) (tgV 6) (sSeq (sAsg (mP fAdd [.e (mP fAdd [.v 3, .e (mK (.i 1))]), .e (mCI fn__law_draw 0 [.v 5])]) (tgV 3)) (sAppG 4 (mV 3)))) (sRetV 4))
      [some (t2, .t), some (.i u, .c), some (.i k1, .c), some (.i at0, .c), some (.l [], .t), some (.i s, .c), none] (fun r => wG r[0]? fun z mz => Q (.n, .c) (z, mz)) (fun x r => wG r[0]? fun z mz => Q x (z, mz)) (fun _ => False) (fun _ => False) := by
    intro s hs1 hs2
    rw [wS_seq]
    refine wS_for' ?_
    simp_arith [true_and]
    refine ⟨by omega, fun k r => ∃ (t : Dt) (ws : List Int) (at1 : Int) (o : Option Vl), r = [some (t, .t), some (.i u, .c), some (.i k1, .c), some (.i at1, .c), some (.l (ws.map .i), .t), some (.i s, .c), o] ∧ ws.length = k ∧ k ≤ u ∧ (∀ w ∈ ws, 1 ≤ w ∧ w ≤ at1) ∧ ws.Pairwise (· < ·) ∧ 0 ≤ at1 ∧ at1 ≤ 2 ^ 50 + k * 2 ^ 40 ∧ Tp (n + (u - k)) t, ⟨t2, [], at0, none, rfl, rfl, Nat.zero_le _, by simp, by simp, hat.1, by omega, h2⟩, ?_, ?_⟩
    · rintro k x _ hx ⟨t, ws, at1, o, rfl, hl, hk, hw, hp, h4, h5, ht⟩
      obtain ⟨rfl, hk2⟩ := rngD_at hx
      have hk3 : k < u := by omega
      simp_arith [true_and]
      simp_arith! [true_and]
      refine draw_ok (n := n + (u - (k + 1))) (ht.less (by omega)) (by omega) (by omega) fun k4 t4 a4 b4 h6 => ?_
      simp_arith [h6.zfl]
      refine ⟨by omega, t4, ws ++ [at1 + 1 + k4], at1 + 1 + k4, _, by rw [List.map_append]; rfl, by simp [hl], by omega, ?_, ?_, by omega, by omega, h6⟩
      · intro w hw2
        rcases List.mem_append.mp hw2 with hw2 | hw2
        · have := hw w hw2; omega
        · rw [List.mem_singleton.mp hw2]; omega
      · refine List.pairwise_append.mpr ⟨hp, by simp, fun a ha b hb => ?_⟩
        rw [List.mem_singleton.mp hb]
        have := hw a ha; omega
    · rintro _ ⟨t, ws, at1, o, rfl, hl, hk, hw, hp, h4, h5, ht⟩
      rw [rngD_len] at hl h5 ht
      simp_arith [true_and]
      exact q ws t (by omega) ⟨hp, fun w hw2 => by have := hw w hw2; omega, by omega⟩ (ht.less (by omega))
  refine ⟨fun _ => ?_, fun _ => ?_⟩
  · exact wAt_I (ns := [1, 3, 1000000000]) (P := fun s => 1 ≤ s ∧ s ≤ 1000000000) a1 b1 (by simp) fun s hs => fin s hs.1 hs.2
  · exact wAt_I (ns := [1, 3, 20]) (P := fun s => 1 ≤ s ∧ s ≤ 1000000000) a1 b1 (by simp) fun s hs => fin s hs.1 hs.2
theorem new_ok {folk : List Int} {d : Nat} (f : Fk folk) (hd : d ≤ 60) {Q : Vl → Vl → Prop} (q : Q (hs (folk :: List.replicate d []) (List.replicate d 0), .c) (.n, .c)) : wFn fn__law_new [(.l (folk.map .i), .c), (.i d, .c)] Q := by
  have hl := f.len
  simp_arith [fn__law_new, m__law_new, wO_srtL (show folk.length ≤ 1000 by omega), rep_i, rep_t]
  rw [isrt_id (f.srt.imp fun h => by omega)]
  refine ⟨⟨by simp, by omega, by omega⟩, by simp; omega, ⟨by simp, by omega, by omega⟩, ?_⟩
  simpa [hs, rm] using q
theorem new_hou {folk : List Int} {d : Nat} (f : Fk folk) : Hou folk d (folk :: List.replicate d []) (List.replicate d 0) := by
  refine ⟨by simp, by simp, ?_, fun r hr => ?_, fun m hm => ?_⟩
  · have : (List.replicate d ([] : List Int)).flatten = [] := by simp
    simp [this]
  · rcases List.mem_cons.mp hr with rfl | hr
    · exact f.srt
    · rw [(List.mem_replicate.mp hr).2]; exact .nil
  · rw [(List.mem_replicate.mp hm).2]; omega
theorem behind_ok {folk : List Int} {d : Nat} {R : List (List Int)} {D : List Int} (f : Fk folk) (h : Hou folk d R D) (hd : d ≤ 60) {w : Int} {k : Nat} (hk : k < d) {Q : Vl → Vl → Prop} (q : Q (hs (behR R w k) (D.set k w), .c) (.n, .c)) : wFn fn__law_behind [(hs R D, .c), (pr (w, (k : Int) + 1), .c)] Q := by
  have hlr := h.lr
  have hld := h.ld
  simp_arith [fn__law_behind, m__law_behind, hs, pr]
  simp_arith! [true_and]
  simp_arith! [true_and]
  rw [wS_seq]
  simp_arith [Int.add_sub_cancel]
  refine wAt_M (by omega) (by omega) fun r0 hr0 => ?_
  rw [Int.toNat_natCast] at hr0
  have ek : R.getD k [] = r0 := by rw [List.getD_eq_getElem?_getD, hr0]; rfl
  simp_arith [rm, wO_inT, Int.add_sub_cancel]
  refine ⟨fun hw => ?_, fun hw => ?_⟩
  · simp_arith! [true_and]
    refine wAt_M (by omega) (by omega) fun rb hrb => ?_
    have lb : rb.length ≤ 60 := by have := h.rlen (List.mem_of_getElem? hrb); have := f.len; omega
    rw [show ((k : Int)).toNat = k by omega] at hrb
    simp_arith [rm]
    refine ⟨by omega, _, _, lc_fI (fun v => decide (v ≠ w)) .i fun v hv => ?_, ?_⟩
    · simp_arith [true_and]
      simp
    · simp_arith [true_and]
      refine wSt_M (f := rm) (y := rb.filter fun v => decide (v ≠ w)) (by omega) (by omega) ?_
      rw [show ((k : Int)).toNat = k by omega]
      simp_arith! [true_and]
      refine wAt_M (by omega) (by rw [List.length_set]; omega) fun re hre => ?_
      rw [show ((k : Int) + 1).toNat = (k + 1) by omega, List.getElem?_set_ne (by omega)] at hre
      have le : re.length ≤ 60 := by have := h.rlen (List.mem_of_getElem? hre); have := f.len; omega
      simp_arith [rm]
      refine ⟨by omega, ?_⟩
      rw [show re.map Dt.i ++ [Dt.i w] = (re ++ [w]).map Dt.i by simp, wO_srtT (by simp; omega)]
      simp_arith [true_and]
      refine wSt_M (f := rm) (y := isrt (re ++ [w])) (by omega) (by rw [List.length_set]; omega) ?_
      rw [show ((k : Int) + 1).toNat = (k + 1) by omega]
      simp_arith! [Int.add_sub_cancel]
      rw [cutD_hi (by omega), cutD_lo (by omega), Int.toNat_natCast, show ((k : Int) + 1).toNat = k + 1 by omega]
      have eD : (D.map Dt.i).take k ++ [Dt.i w] ++ (D.map Dt.i).drop (k + 1) = (D.set k w).map Dt.i := by
        rw [List.set_eq_take_append_cons_drop, if_pos (by omega)]
        simp
      have eb : R.getD k [] = rb := by rw [List.getD_eq_getElem?_getD, hrb]; rfl
      have ee : R.getD (k + 1) [] = re := by rw [List.getD_eq_getElem?_getD, hre]; rfl
      have eR : behR R w k = (R.set k (rb.filter fun v => decide (v ≠ w))).set (k + 1) (isrt (re ++ [w])) := by
        have hm :  w ∈ R.getD k [] := by rw [ek]; exact hw
        simp only [behR, if_pos hm]
        rw [eb, ee]
      refine ⟨by simp; omega, by simp; omega, ?_⟩
      rw [eD, ← eR]
      exact q
  · simp_arith! [true_and]
    refine wAt_M (by omega) (by omega) fun rb hrb => ?_
    have lb : rb.length ≤ 60 := by have := h.rlen (List.mem_of_getElem? hrb); have := f.len; omega
    rw [show ((k : Int) + 1).toNat = (k + 1) by omega] at hrb
    simp_arith [rm]
    refine ⟨by omega, _, _, lc_fI (fun v => decide (v ≠ w)) .i fun v hv => ?_, ?_⟩
    · simp_arith [true_and]
      simp
    · simp_arith [true_and]
      refine wSt_M (f := rm) (y := rb.filter fun v => decide (v ≠ w)) (by omega) (by omega) ?_
      rw [show ((k : Int) + 1).toNat = (k + 1) by omega]
      simp_arith! [true_and]
      refine wAt_M (by omega) (by rw [List.length_set]; omega) fun re hre => ?_
      rw [show ((k : Int)).toNat = k by omega, List.getElem?_set_ne (by omega)] at hre
      have le : re.length ≤ 60 := by have := h.rlen (List.mem_of_getElem? hre); have := f.len; omega
      simp_arith [rm]
      refine ⟨by omega, ?_⟩
      rw [show re.map Dt.i ++ [Dt.i w] = (re ++ [w]).map Dt.i by simp, wO_srtT (by simp; omega)]
      simp_arith [true_and]
      refine wSt_M (f := rm) (y := isrt (re ++ [w])) (by omega) (by rw [List.length_set]; omega) ?_
      rw [show ((k : Int)).toNat = k by omega]
      simp_arith! [Int.add_sub_cancel]
      rw [cutD_hi (by omega), cutD_lo (by omega), Int.toNat_natCast, show ((k : Int) + 1).toNat = k + 1 by omega]
      have eD : (D.map Dt.i).take k ++ [Dt.i w] ++ (D.map Dt.i).drop (k + 1) = (D.set k w).map Dt.i := by
        rw [List.set_eq_take_append_cons_drop, if_pos (by omega)]
        simp
      have eb : R.getD (k + 1) [] = rb := by rw [List.getD_eq_getElem?_getD, hrb]; rfl
      have ee : R.getD k [] = re := by rw [List.getD_eq_getElem?_getD, hre]; rfl
      have eR : behR R w k = (R.set (k + 1) (rb.filter fun v => decide (v ≠ w))).set k (isrt (re ++ [w])) := by
        have hm : ¬ w ∈ R.getD k [] := by rw [ek]; exact hw
        simp only [behR, if_neg hm]
        rw [eb, ee]
      refine ⟨by simp; omega, by simp; omega, ?_⟩
      rw [eD, ← eR]
      exact q
theorem steps_ok {folk : List Int} {d : Nat} {R : List (List Int)} {D : List Int} (f : Fk folk) (h : Hou folk d R D) (hd : d ≤ 60) {Q : Vl → Vl → Prop} (q : Q (.l ((steps R D).map pr), .t) (.n, .c)) : wFn fn__law_steps [(hs R D, .c)] Q := by
  simp_arith [fn__law_steps, m__law_steps, hs]
  simp_arith! [true_and]
  simp_arith! [true_and]
  rw [wS_seq]
  refine wS_for' ?_
  simp_arith [true_and]
  have hlr := h.lr
  have hld := h.ld
  have rl : ∀ j, (R.getD j []).length ≤ 60 := fun j => by
    rw [List.getD_eq_getElem?_getD]
    cases e : R[j]? with
    | none => simp
    | some r => have := h.rlen (List.mem_of_getElem? e); have := f.len; simp; omega
  have sl : ∀ k, k ≤ d → (stepsTo R D k).length ≤ k * 120 := by
    intro k hk
    induction k with
    | zero => simp [stepsTo]
    | succ k ih =>
      rw [stepsTo_s, List.length_append]
      have := ih (by omega)
      simp only [stepAt, List.length_append, List.length_map]
      have h1 := List.length_filter_le (fun w => decide (D.getD k 0 < w)) (R.getD k [])
      have h2 := List.length_filter_le (fun w => decide (w < D.getD k 0)) (R.getD (k + 1) [])
      have := rl k
      have := rl (k + 1)
      omega
  refine ⟨fun k r => ∃ o1 o2, r = [some (.t [.t (R.map rm), .t (D.map .i)], .c), some (.t (R.map rm), .c), some (.t (D.map .i), .c), some (.l ((stepsTo R D k).map pr), .t), o1, o2, none] ∧ k ≤ d, ⟨_, _, rfl, Nat.zero_le _⟩, ?_, ?_⟩
  · rintro k x _ hx ⟨o1, o2, rfl, hk⟩
    obtain ⟨y, hy, rfl⟩ := enumD_mem hx
    rw [List.getElem?_map, Option.map_eq_some_iff] at hy
    obtain ⟨m, hm, rfl⟩ := hy
    have hk2 := (List.getElem?_eq_some_iff.mp hm).1
    have em : D.getD k 0 = m := by rw [List.getD_eq_getElem?_getD, hm]; rfl
    have sk := sl k (by omega)
    simp_arith [true_and]
    simp_arith! [true_and]
    refine wAt_M (by omega) (by omega) fun r0 hr0 => ?_
    rw [Int.toNat_natCast] at hr0
    have e0 : R.getD k [] = r0 := by rw [List.getD_eq_getElem?_getD, hr0]; rfl
    have l0 := rl k
    rw [e0] at l0
    simp_arith [rm]
    have c1 := List.length_filter_le (fun w => decide (m < w)) r0
    refine ⟨by omega, _, _, lc_fI (fun w => decide (m < w)) (fun w => pr (w, (k : Int) + 1)) fun w hw => ?_, ?_⟩
    · simp_arith [pr]
    · simp_arith [true_and]
      refine ⟨by omega, ?_⟩
      refine wAt_M (by omega) (by omega) fun r1 hr1 => ?_
      have hk1 : ((k : Int) + 1).toNat = k + 1 := by omega
      rw [hk1] at hr1
      have e1 : R.getD (k + 1) [] = r1 := by rw [List.getD_eq_getElem?_getD, hr1]; rfl
      have l1 := rl (k + 1)
      rw [e1] at l1
      have c2 := List.length_filter_le (fun w => decide (w < m)) r1
      simp_arith [rm]
      refine ⟨by omega, _, _, lc_fI (fun w => decide (w < m)) (fun w => pr (w, (k : Int) + 1)) fun w hw => ?_, ?_⟩
      · simp_arith [pr]
      · simp_arith [true_and]
        refine ⟨by omega, some (.i (k : Int), .c), some (.i m, .c), ?_, by omega⟩
        rw [stepsTo_s, List.map_append, stepAt, List.map_append, List.map_map, List.map_map, em, e0, e1, List.append_assoc]
        rfl
  · rintro _ ⟨o1, o2, rfl, hk⟩
    rw [enumD_len, List.length_map]
    have sk := sl D.length (by omega)
    simp_arith [true_and]
    rw [wO_srtP (show (stepsTo R D D.length).length ≤ LIM by have : LIM = 1000000 := rfl; omega)]
    simp_arith [true_and]
    exact q
theorem walkP_ok {folk : List Int} {d : Nat} (f : Fk folk) (hd : d ≤ 60) {n u : Nat} {t : Dt} (ht : Tp (n + u) t) (hu : u ≤ 1000) {R0 : List (List Int)} {D0 : List Int} (h0 : Hou folk d R0 D0) {Q : Vl → Vl → Prop} (q : ∀ R' D' (ps : List (Int × Int)) t', Run d R0 D0 ps R' D' → ps.length ≤ u → (steps R0 D0 ≠ [] → 0 < u → ps ≠ []) → Tp n t' → Q (.t [hs R' D', .l (ps.map pr)], .c) (t', .t)) : wFn fn__law_walk [(t, .t), (hs R0 D0, .c), (.i u, .c)] Q := by
  simp_arith [fn__law_walk, m__law_walk]
  simp_arith! [true_and]
  rw [wS_seq]
  refine wS_for' ?_
  simp_arith [true_and]
  refine ⟨by omega, fun k r => ∃ (t : Dt) (R : List (List Int)) (D : List Int) (ps : List (Int × Int)) (o1 o2 : Option Vl), r = [some (t, .t), some (hs R D, .c), some (.i u, .c), some (.l (ps.map pr), .t), o1, o2] ∧ Run d R0 D0 ps R D ∧ ps.length ≤ k ∧ (steps R0 D0 ≠ [] → 0 < k → ps ≠ []) ∧ k ≤ u ∧ Tp (n + (u - k)) t, ⟨t, R0, D0, [], _, _, rfl, .nil, Nat.zero_le _, fun _ c => absurd c (Nat.lt_irrefl 0), Nat.zero_le _, ht⟩, ?_, ?_⟩
  · rintro k x _ hx ⟨t, R, D, ps, o1, o2, rfl, hr, hl, hps, hk, ht⟩
    have h := hr.hou f h0
    obtain ⟨rfl, hk2⟩ := rngD_at hx
    have hk3 : k < u := by omega
    simp_arith [true_and]
    simp_arith! [true_and]
    refine steps_ok f h hd ?_
    have hls := len_steps f h hd
    simp_arith [true_and]
    rw [wO_neP0 (d := 9) (pl_pr (by have : LIM = 1000000 := rfl; omega)) (by omega)]
    simp_arith [true_and]
    refine ⟨fun hne => ?_, fun he => ?_⟩
    · simp_arith! [true_and]
      refine of_ok (n := n + (u - (k + 1))) (P := fun y => ∃ p ∈ steps R D, y = pr p) (ht.less (by omega)) ?_ (by simp; omega) (fun y hy => ?_) ?_
      · cases e : steps R D with
        | nil => rw [e] at hne; simp at hne
        | cons a b => simp
      · obtain ⟨p, hp, rfl⟩ := List.mem_map.mp hy
        exact ⟨p, hp, rfl⟩
      · rintro _ t' ⟨⟨w, z⟩, hp, rfl⟩ ht'
        obtain ⟨j, hj, hz, hw⟩ := mem_steps.mp hp
        simp only at hz hw
        subst hz
        have hw2 : w ∈ R.getD j [] ∨ w ∈ R.getD (j + 1) [] := by
          rcases hw with hw | hw
          · exact .inl hw.1
          · exact .inr hw.1
        have hj2 : j < d := by rw [← h.ld]; exact hj
        obtain ⟨j2, hj3, ej, hlet⟩ := steps_let f h hp
        obtain rfl : j = j2 := by
          have := congrArg Prod.snd ej
          simp only at this
          omega
        simp_arith [ht'.zfl]
        refine ⟨by have : LIM = 1000000 := rfl; omega, ?_⟩
        simp_arith [true_and]
        refine behind_ok f h hd hj2 ?_
        simp_arith [true_and]
        refine ⟨t', behR R w j, D.set j w, ps ++ [(w, (j : Int) + 1)], some (.i (0 + (k : Int)), .c), some (.l ((steps R D).map pr), .t), by simp, hr.snoc hj2 hlet, by simp; omega, (by intros; first | simp | (rename_i c; simp at c)), by omega, ht'⟩
    · refine ⟨t, R, D, ps, _, _, rfl, hr, by omega, ?_, by omega, ht.less (by omega)⟩
      intro h1
      rcases Nat.eq_zero_or_pos k with hk0 | hk0
      · subst hk0
        obtain rfl : ps = [] := List.length_eq_zero_iff.mp (by omega)
        obtain ⟨e1, e2⟩ := hr.det .nil
        subst e1 e2
        exact absurd (by simpa using he) h1
      · intros
        first | exact hps h1 hk0 | exact hps h1 hk0 (by assumption)
  · rintro _ ⟨t, R, D, ps, o1, o2, rfl, h, hl, hps, hk, ht⟩
    rw [rngD_len] at hl hps hk ht
    simp_arith [true_and]
    exact q R D ps t h (by omega) (fun h1 h2 => hps h1 (by omega)) (ht.less (by omega))
theorem walkR_ok {folk : List Int} {d : Nat} (f : Fk folk) (hd : d ≤ 60) {n u : Nat} {t : Dt} (ht : Tp (n + u) t) (hu : u ≤ 1000) {R0 : List (List Int)} {D0 : List Int} (h0 : Hou folk d R0 D0) {Q : Vl → Vl → Prop} (q : ∀ R' D' (ps : List (Int × Int)) t', Run d R0 D0 ps R' D' → ps.length ≤ u → Tp n t' → Q (.t [hs R' D', .l (ps.map pr)], .c) (t', .t)) : wFn fn__law_walk [(t, .t), (hs R0 D0, .c), (.i u, .c)] Q :=
  walkP_ok f hd ht hu h0 fun R' D' ps t' h1 h2 _ h3 => q R' D' ps t' h1 h2 h3
theorem walk_ok {folk : List Int} {d : Nat} (f : Fk folk) (hd : d ≤ 60) {n u : Nat} {t : Dt} (ht : Tp (n + u) t) (hu : u ≤ 1000) {R : List (List Int)} {D : List Int} (h : Hou folk d R D) {Q : Vl → Vl → Prop} (q : ∀ R' D' (ps : List (Int × Int)) t', Hou folk d R' D' → ps.length ≤ u → Tp n t' → Q (.t [hs R' D', .l (ps.map pr)], .c) (t', .t)) : wFn fn__law_walk [(t, .t), (hs R D, .c), (.i u, .c)] Q :=
  walkR_ok f hd ht hu h fun R' D' ps t' hr hl ht => q R' D' ps t' (hr.hou f h) hl ht
theorem house_ok {n most doors : Nat} {t : Dt} (ht : Tp (n + 400) t) (h1 : most ≤ 59) (h2 : 1 ≤ doors) (h3 : doors ≤ 59) {Q : Vl → Vl → Prop} (q : ∀ folk d R D t', Fk folk → folk.length ≤ most → 1 ≤ d → d ≤ doors → Hou folk d R D → Tp n t' → Q (hs R D, .c) (t', .t)) : wFn fn__law_house [(t, .t), (.i most, .c), (.i doors, .c)] Q := by
  simp_arith [fn__law_house, m__law_house]
  simp_arith! [true_and]
  refine draw_ok (n := n + 399) ht (by omega) (by omega) fun a t1 a0 a1 ht => ?_
  simp_arith [ht.zfl]
  obtain ⟨u, rfl⟩ := Int.eq_ofNat_of_zero_le a0
  refine folk_ok (n := n + 300) (u := u) (ht.less (by omega)) (by omega) fun folk t2 hl f ht => ?_
  simp_arith [ht.zfl]
  refine draw_ok (n := n + 299) ht (by omega) (by omega) fun b t3 b0 b1 ht => ?_
  simp_arith [ht.zfl]
  obtain ⟨d, rfl⟩ := Int.eq_ofNat_of_zero_le b0
  have ed : (1 : Int) + (d : Int) = ((d + 1 : Nat) : Int) := by omega
  rw [ed]
  simp_arith! [true_and]
  refine draw_ok (n := n + 298) ht (by omega) (by omega) fun c t4 c0 c1 ht => ?_
  simp_arith [ht.zfl]
  refine ⟨fun _ => ?_, fun _ => ?_⟩
  · refine new_ok f (by omega) ?_
    simp_arith [true_and]
    refine draw_ok (n := n + 297) ht (by omega) (by omega) fun e t5 e0 e1 ht => ?_
    simp_arith [ht.zfl]
    obtain ⟨w, rfl⟩ := Int.eq_ofNat_of_zero_le e0
    refine walk_ok (n := n) f (show d + 1 ≤ 60 by omega) (ht.less (by omega)) (by omega) (new_hou f) fun R D ps t6 hh _ ht => ?_
    simp_arith [ht.zfl]
    exact q folk (d + 1) R D t6 f (by omega) (by omega) (by omega) hh ht
  · refine dealt_ok (n := n) f (by omega) (ht.less (by omega)) fun R D t5 hh ht => ?_
    simp_arith [ht.zfl]
    exact q folk (d + 1) R D t5 f (by omega) (by omega) (by omega) hh ht
def lotD (dn pn : List HS) : List (HS × Dt) := dn.map (fun c => (c, zv c)) ++ pn.map fun c => (c, Dt.n)
abbrev lotM (dn pn : List HS) : Dt := .k ((lotD dn pn).map fun p => fH p.1) ((lotD dn pn).map (·.2))
theorem lot_keys (dn pn : List HS) : (lotD dn pn).map (·.1) = dn ++ pn := by
  unfold lotD
  rw [List.map_append, List.map_map, List.map_map]
  simp [Function.comp_def]
theorem lot_in (dn pn : List HS) (z : HS) : (kget (lotD dn pn) z).isSome = decide (z ∈ dn ++ pn) := by
  by_cases h : z ∈ dn ++ pn
  · rw [decide_eq_true h]
    cases e : kget (lotD dn pn) z with
    | some _ => rfl
    | none =>
      rw [kget_none, lot_keys] at e
      exact absurd h e
  · rw [decide_eq_false h]
    have : kget (lotD dn pn) z = none := by rw [kget_none, lot_keys]; exact h
    rw [this]; rfl
theorem lot_get {dn pn : List HS} {c : HS} (h : c ∈ dn) : kget (lotD dn pn) c = some (zv c) := by
  unfold kget lotD
  rw [List.find?_append]
  have : (dn.map fun c => (c, zv c)).find? (fun p => decide (p.1 = c)) = some (c, zv c) := by
    induction dn with
    | nil => nomatch h
    | cons b r ih =>
      rw [List.map_cons, List.find?_cons]
      by_cases e : b = c
      · subst e; simp
      · simp only [e, decide_false]
        exact ih ((List.mem_cons.mp h).resolve_left fun z => e z.symm)
  rw [this]; rfl
theorem lot_new {dn pn : List HS} {z : HS} (h : ¬ z ∈ dn ++ pn) : kput (lotD dn pn) z .n = lotD dn (pn ++ [z]) := by
  unfold kput
  rw [lot_in, decide_eq_false h]
  simp [lotD]
theorem lot_set {dn pn : List HS} {c : HS} (h : (dn ++ (c :: pn)).Nodup) : kput (lotD dn (c :: pn)) c (zv c) = lotD (dn ++ [c]) pn := by
  unfold kput
  rw [lot_in, decide_eq_true (by simp), if_pos rfl]
  obtain ⟨n1, n2, n3⟩ := List.nodup_append.mp h
  obtain ⟨n4, n5⟩ := List.nodup_cons.mp n2
  unfold lotD
  rw [List.map_append, List.map_cons, List.map_cons, List.map_map, List.map_map, List.map_append]
  have e1 : dn.map ((fun p : HS × Dt => if p.1 = c then (p.1, zv c) else p) ∘ fun c => (c, zv c)) = dn.map fun c => (c, zv c) := List.map_congr_left fun b hb => by
    have : ¬ b = c := fun e => n3 b hb c List.mem_cons_self e
    simp [this]
  have e2 : pn.map ((fun p : HS × Dt => if p.1 = c then (p.1, zv c) else p) ∘ fun c => (c, Dt.n)) = pn.map fun c => (c, Dt.n) := List.map_congr_left fun b hb => by
    have : ¬ b = c := fun e => n4 (by rw [← e]; exact hb)
    simp [this]
  rw [e1, e2]
  simp
/-- the search: dn told already (cl of them wholly), pn the layer's rest, fu what is found behind it -/
structure LotI (a : HS) (k : Nat) (cl dn pn fu : List HS) : Prop where
  nd : (dn ++ (pn ++ fu)).Nodup
  rch : ∀ c ∈ dn ++ (pn ++ fu), ∃ n, Pth nxH n a c
  clo : ∀ c ∈ cl, ∀ z ∈ nxH c, z ∈ dn ++ (pn ++ fu)
  lay : ∀ c ∈ pn, Pth nxH k a c
  fur : ∀ c ∈ fu, Pth nxH (k + 1) a c
  st : a ∈ dn ++ (pn ++ fu)
section
variable {a c z : HS} {k : Nat} {cl dn pn fu : List HS}
theorem LotI.start : LotI a 0 [] [] [a] [] := ⟨by simp, fun c h => ⟨0, by simp at h; subst h; exact .z _⟩, fun _ z => (nomatch z), fun c h => by rw [List.mem_singleton.mp h]; exact .z _, fun _ z => (nomatch z), by simp⟩
theorem LotI.move (I : LotI a k cl dn (c :: pn) fu) : LotI a k cl (dn ++ [c]) pn fu := by
  have e : dn ++ (c :: pn ++ fu) = dn ++ [c] ++ (pn ++ fu) := by simp
  exact ⟨by rw [← e]; exact I.nd, by rw [← e]; exact I.rch, by rw [← e]; exact I.clo, fun b hb => I.lay b (List.mem_cons_of_mem _ hb), I.fur, by rw [← e]; exact I.st⟩
theorem LotI.add (I : LotI a k cl dn pn fu) (hp : Pth nxH (k + 1) a z) (hn : ¬ z ∈ dn ++ (pn ++ fu)) : LotI a k cl dn pn (fu ++ [z]) := by
  have e : dn ++ (pn ++ (fu ++ [z])) = dn ++ (pn ++ fu) ++ [z] := by simp
  refine ⟨?_, fun b hb => ?_, fun b hb y hy => ?_, I.lay, fun b hb => ?_, ?_⟩
  · rw [e]
    exact List.nodup_append.mpr ⟨I.nd, by simp, fun x hx y hy q => hn (by rw [← List.mem_singleton.mp hy, ← q]; exact hx)⟩
  · rw [e] at hb
    rcases List.mem_append.mp hb with h | h
    · exact I.rch b h
    · rw [List.mem_singleton.mp h]; exact ⟨_, hp⟩
  · rw [e]; exact List.mem_append_left _ (I.clo b hb y hy)
  · rcases List.mem_append.mp hb with h | h
    · exact I.fur b h
    · rw [List.mem_singleton.mp h]; exact hp
  · rw [e]; exact List.mem_append_left _ I.st
theorem LotI.close (I : LotI a k cl dn pn fu) (h : ∀ z ∈ nxH c, z ∈ dn ++ (pn ++ fu)) : LotI a k (cl ++ [c]) dn pn fu :=
  ⟨I.nd, I.rch, fun b hb y hy => by
    rcases List.mem_append.mp hb with q | q
    · exact I.clo b q y hy
    · rw [List.mem_singleton.mp q] at hy; exact h y hy, I.lay, I.fur, I.st⟩
theorem LotI.turn (I : LotI a k cl dn [] fu) : LotI a (k + 1) cl dn fu [] := by
  have e : dn ++ ([] ++ fu) = dn ++ (fu ++ []) := by simp
  exact ⟨by rw [← e]; exact I.nd, by rw [← e]; exact I.rch, by rw [← e]; exact I.clo, I.fur, fun _ z => (nomatch z), by rw [← e]; exact I.st⟩
end
theorem lot_ok {folk : List Int} {d N : Nat} {a : HS} (f : Fk folk) (h0 : Hou folk d a.1 a.2) (hd : d ≤ 60) (hN : N ≤ 390) (u : Upto folk d N) (few : ∀ l : List HS, l.Nodup → (∀ c ∈ l, ∃ e, Dst nxH e a c) → l.length ≤ 900000) {Q : Vl → Vl → Prop}
    (q : ∀ os : List HS, os.Nodup → a ∈ os → (∀ c ∈ os, ∃ n, Pth nxH n a c) → (∀ c ∈ os, ∀ z ∈ nxH c, z ∈ os) → os.length ≤ 900000 → Q (.k (os.map fH) (os.map zv), .a) (.n, .c)) : wFn fn__law_lot [(fH a, .c)] Q := by
  have lim : LIM = 1000000 := rfl
  have fl := f.len
  have len : ∀ {l : List HS}, l.Nodup → (∀ c ∈ l, ∃ n, Pth nxH n a c) → l.length ≤ 900000 := fun nd h => few _ nd fun c hc => by
    obtain ⟨n, hn⟩ := h c hc
    obtain ⟨e, _, he⟩ := pth_dst hn
    exact ⟨e, he⟩
  simp_arith [fn__law_lot, m__law_lot]
  rw [wS_seq]
  simp_arith [true_and]
  refine ⟨key_fH.ok a, ?_⟩
  rw [wS_seq]
  refine wS_for' ?_
  simp_arith [true_and]
  refine ⟨fun k r => ∃ (dn ly : List HS) (md : Md) (o3 o4 o5 o6 : Option Vl), r = [some (fH a, .c), some (lotM dn ly, .a), some (.l (ly.map fH), md), o3, o4, o5, o6, none] ∧ LotI a k dn dn ly [], ⟨[], [a], .t, none, none, none, none, rfl, .start⟩, ?_, ?_⟩
  · rintro k x _ hx ⟨dn, ly, md, o3, o4, o5, o6, rfl, I⟩
    obtain ⟨rfl, hk⟩ := rngD_at hx
    simp_arith [true_and]
    simp_arith! [true_and]
    rw [wS_seq]
    refine wS_for' ?_
    simp_arith [true_and]
    refine ⟨fun i r => ∃ (fu : List HS) (o5 o6 : Option Vl), r = [some (fH a, .c), some (lotM (dn ++ ly.take i) (ly.drop i ++ fu), .a), some (.l (ly.map fH), .c), some (.i (0 + (k : Int)), .c), some (.l (fu.map fH), .t), o5, o6, none] ∧ LotI a k (dn ++ ly.take i) (dn ++ ly.take i) (ly.drop i) fu, ⟨[], o5, o6, by simp, by simpa using I⟩, ?_, ?_⟩
    · rintro i x _ hx ⟨fu, o5, o6, rfl, I⟩
      obtain ⟨here, hh, hil, rfl⟩ : ∃ c, ly[i]? = some c ∧ i < ly.length ∧ x = fH c := by
        rw [List.getElem?_map] at hx
        cases hl : ly[i]? with
        | none => rw [hl] at hx; cases hx
        | some c => rw [hl] at hx; cases hx; exact ⟨c, rfl, (List.getElem?_eq_some_iff.mp hl).1, rfl⟩
      have et : ly.take (i + 1) = ly.take i ++ [here] := by rw [List.take_add_one, hh]; rfl
      have ed : ly.drop i = here :: ly.drop (i + 1) := by
        rw [List.drop_eq_getElem_cons hil]
        congr 1
        exact (List.getElem?_eq_some_iff.mp hh).2
      simp only [et]
      rw [ed] at I ⊢
      simp only [List.cons_append]
      obtain ⟨dn', hdn⟩ : ∃ dn', dn' = dn ++ ly.take i := ⟨_, rfl⟩
      obtain ⟨pn', hpn⟩ : ∃ pn', pn' = ly.drop (i + 1) := ⟨_, rfl⟩
      simp only [← List.append_assoc, ← hdn, ← hpn]
      rw [← hdn, ← hpn] at I
      have hP : Pth nxH k a here := I.lay here List.mem_cons_self
      have hH : Hou folk d here.1 here.2 := pth_hou f h0 hP
      have sl := steps_two f hH
      have l1 := len I.nd I.rch
      simp_arith [true_and]
      rw [wS_seq]
      simp_arith [true_and]
      refine steps_ok f hH hd ?_
      simp_arith [true_and]
      refine ⟨by omega, _, _, lc_mM (fun p => fH (bhS here p)) fun p hp => ?_, ?_⟩
      · obtain ⟨kk, hkk, ep, hlet⟩ := steps_let f hH hp
        simp_arith [true_and]
        rw [ep]
        refine behind_ok f hH hd hkk ?_
        rw [show hs (behR here.1 p.1 kk) (here.2.set kk p.1) = fH (bhS here p) by rw [ep, bhS_k]; rfl, ← ep]
        simp_arith [true_and]
      · simp_arith [true_and]
        have ez : Dt.z ((steps here.1 here.2).map fun p => fH (bhS here p)) = zv here := by unfold zv nxH; rw [List.map_map]; rfl
        have I1 : LotI a k dn' (dn' ++ [here]) pn' fu := I.move
        rw [ez, key_fH.put here (zv here), lot_set (pn := pn' ++ fu) I.nd]
        refine ⟨key_fH.ok here, ?_, by unfold lotD; simp only [List.length_append, List.length_map] at l1 ⊢; simp only [List.length_cons, List.length_append] at l1 ⊢; omega, ?_⟩
        · rw [show (steps here.1 here.2).map (fun p => fH (bhS here p)) = (nxH here).map fH by unfold nxH; rw [List.map_map]; rfl]
          exact flatL_H _
        refine wS_for' ?_
        simp_arith [true_and]
        refine ⟨key_fH.ok here, zv here, by rw [key_fH.look]; exact lot_get (by simp), ?_⟩
        rw [wZ_zv]
        unfold zv
        simp_arith [true_and]
        refine ⟨fun j r => ∃ (fu2 : List HS) (o6 : Option Vl), r = [some (fH a, .c), some (lotM (dn' ++ [here]) (pn' ++ fu2), .a), some (.l (ly.map fH), .c), some (.i (0 + (k : Int)), .c), some (.l (fu2.map fH), .t), some (fH here, .c), o6, none] ∧ LotI a k dn' (dn' ++ [here]) pn' fu2 ∧ ∀ z ∈ (nxH here).take j, z ∈ dn' ++ [here] ++ (pn' ++ fu2), ⟨fu, o6, rfl, I1, by simp⟩, ?_, ?_⟩
        · rintro j x _ hx ⟨fu2, o6, rfl, I2, hz⟩
          obtain ⟨z, hj, rfl⟩ : ∃ c, (nxH here)[j]? = some c ∧ x = fH c := by
            rw [List.getElem?_map] at hx
            cases hl : (nxH here)[j]? with
            | none => rw [hl] at hx; cases hx
            | some c => rw [hl] at hx; cases hx; exact ⟨c, rfl, rfl⟩
          have hm : z ∈ nxH here := List.mem_of_getElem? hj
          have ez : (nxH here).take (j + 1) = (nxH here).take j ++ [z] := by rw [List.take_add_one, hj]; rfl
          have l2 := len I2.nd I2.rch
          simp_arith [true_and]
          refine ⟨key_fH.ok z, ?_⟩
          rw [key_fH.look, lot_in]
          refine ⟨fun hc => ?_, fun hc => ⟨fu2, _, rfl, I2, fun y hy => ?_⟩⟩
          · have hc : ¬ z ∈ dn' ++ [here] ++ (pn' ++ fu2) := of_decide_eq_false hc
            rw [wS_seq]
            simp_arith [true_and]
            rw [key_fH.put z .n, lot_new hc]
            refine ⟨key_fH.ok z, by unfold lotD; simp only [List.length_append, List.length_map] at l2 ⊢; omega, ?_, fu2 ++ [z], some (fH z, .c), by simp, I2.add (.s hP hm) hc, fun y hy => ?_⟩
            · simp only [List.length_append] at l2; omega
            · rw [ez] at hy
              rcases List.mem_append.mp hy with q | q
              · have := hz y q
                rw [← List.append_assoc, ← List.append_assoc]
                exact List.mem_append_left _ (by rw [List.append_assoc]; exact this)
              · rw [List.mem_singleton.mp q]; simp
          · rw [ez] at hy
            rcases List.mem_append.mp hy with q | q
            · exact hz y q
            · rw [List.mem_singleton.mp q]; exact of_decide_eq_true hc
        · rintro _ ⟨fu2, o6, rfl, I2, hz⟩
          simp only [List.length_map, List.take_length] at hz
          exact ⟨fu2, _, _, rfl, I2.close hz⟩
    · rintro _ ⟨fu, o5, o6, rfl, I⟩
      simp only [List.length_map, List.take_length, List.drop_length, List.nil_append] at I ⊢
      simp_arith [true_and]
      exact ⟨dn ++ ly, fu, .c, _, _, _, _, rfl, I.turn⟩
  · rintro _ ⟨dn, ly, md, o3, o4, o5, o6, rfl, I⟩
    rw [rngD_len] at I
    have e : ly = [] := by
      cases ly with
      | nil => rfl
      | cons c l =>
        obtain ⟨ps, hl, hr⟩ := pth_runH f h0 (I.lay c List.mem_cons_self)
        have := u a ps _ _ h0 hr
        have h400 : ps.length = 400 := hl
        omega
    subst e
    simp_arith [true_and]
    have e1 : (lotD dn []).map (fun p => fH p.1) = dn.map fH := by simp [lotD, Function.comp_def]
    have e2 : (lotD dn []).map (·.2) = dn.map zv := by simp [lotD, Function.comp_def]
    show Q (.k ((lotD dn []).map fun p => fH p.1) ((lotD dn []).map (·.2)), .a) (.n, .c)
    rw [e1, e2]
    have e3 : dn ++ ([] ++ []) = dn := by simp
    have h1 := I.nd; have h2 := I.rch; have h3 := I.clo; have h4 := I.st
    rw [e3] at h1 h2 h3 h4
    exact q dn h1 h4 h2 h3 (len h1 h2)
theorem same_ok : ∀ (d : Nat) (x : Dt), pl d x = true → ∀ {Q : Vl → Vl → Prop}, Q (.b true, .c) (.n, .c) → wFn (fn__law_same d) [(x, .c), (x, .c)] Q
  | 0, x, h, _, _ => by simp [pl] at h
  | d + 1, x, h, Q, q => by
    have go : ∀ xs : List Dt, (∀ a ∈ xs, pl d a = true) → ∀ r0 : Ev, r0 = [r0.getD 0 none, r0.getD 1 none, none, none] → lcL [2, 3] (tgT [tgV 2, tgV 3]) mYes (mC (fn__law_same d) [.v 2, .v 3]) false (zipD xs xs) r0 [] = .ok ([] ++ (zipD xs xs).map fun _ => .b true) r0 := by
      intro xs hx r0 hr
      generalize r0.getD 0 none = o0 at hr
      generalize r0.getD 1 none = o1 at hr
      subst hr
      refine lc_map (fun _ => .b true) _ _ fun z hz => ?_
      obtain ⟨a, ha, rfl⟩ := zipD_same xs z hz
      simp_arith [↓wS_seq, wS_seq]
      refine same_ok d a (hx a ha) ?_
      simp_arith [↓wS_seq, wS_seq]
    cases x with
    | n => simp_arith [↓wS_seq, wS_seq, fn__law_same_s, m__law_same]; exact q
    | b p => simp_arith [↓wS_seq, wS_seq, fn__law_same_s, m__law_same]; exact q
    | i a => simp_arith [↓wS_seq, wS_seq, fn__law_same_s, m__law_same]; exact q
    | s z =>
      have h : PyData.strOk z = true := h
      simp_arith [↓wS_seq, wS_seq, fn__law_same_s, m__law_same, h]
      exact q
    | t xs =>
      simp only [pl, Bool.and_eq_true, List.all_eq_true, decide_eq_true_eq] at h
      simp_arith [↓wS_seq, wS_seq, fn__law_same_s, m__law_same]
      have hL : LIM = 1000000 := rfl
      refine ⟨by rw [zipD_len]; omega, _, _, go xs h.2 _ rfl, ?_⟩
      simp_arith [↓wS_seq, wS_seq, List.nil_append, map_true, all_true]
      exact q
    | l xs =>
      simp only [pl, Bool.and_eq_true, List.all_eq_true, decide_eq_true_eq] at h
      simp_arith [↓wS_seq, wS_seq, fn__law_same_s, m__law_same]
      have hL : LIM = 1000000 := rfl
      refine ⟨by rw [zipD_len]; omega, _, _, go xs h.2 _ rfl, ?_⟩
      simp_arith [↓wS_seq, wS_seq, List.nil_append, map_true, all_true]
      exact q
    | _ => simp [pl] at h
theorem seen_ok {folk : List Int} {d : Nat} {R : List (List Int)} {D : List Int} (f : Fk folk) (h : Hou folk d R D) (hd : d ≤ 60) {k : Nat} (hk1 : k + 1 < d) {Q : Vl → Vl → Prop} (q1 : D.getD (k + 1) 0 < D.getD k 0 → Q (.l ((seenL (D.getD (k + 1) 0) (D.getD k 0) (R.getD (k + 1) [])).map .i), .t) (.n, .c)) (q2 : ¬ D.getD (k + 1) 0 < D.getD k 0 → Q (.n, .c) (.n, .c)) : wFn fn__law_seen_by [(hs R D, .c), (.i ((k : Int) + 1), .c)] Q := by
  have hlr := h.lr
  have hld := h.ld
  simp_arith [fn__law_seen_by, m__law_seen_by, hs]
  simp_arith! [true_and]
  refine wAt_i (by omega) (by omega) fun a ha => ?_
  rw [show ((k : Int) + 1 - 1).toNat = k by omega] at ha
  have ea : D.getD k 0 = a := by rw [List.getD_eq_getElem?_getD, ha]; rfl
  simp_arith [true_and]
  refine wAt_i (by omega) (by omega) fun b hb => ?_
  rw [show ((k : Int) + 1).toNat = k + 1 by omega] at hb
  have eb : D.getD (k + 1) 0 = b := by rw [List.getD_eq_getElem?_getD, hb]; rfl
  rw [ea, eb] at q1 q2
  simp_arith! [true_and]
  refine ⟨q2, fun hlt => wAt_M (by omega) (by omega) fun r hr => ?_⟩
  rw [show ((k : Int) + 1).toNat = k + 1 by omega] at hr
  have er : R.getD (k + 1) [] = r := by rw [List.getD_eq_getElem?_getD, hr]; rfl
  have hrl := h.rlen (List.mem_of_getElem? hr)
  have := f.len
  rw [er] at q1
  simp_arith [rm]
  refine ⟨by omega, _, _, lc_fI (fun w => decide (w ≤ b ∨ a ≤ w)) .i fun w hw => ?_, q1 hlt⟩
  simp_arith [true_and]
  by_cases c1 : b < w
  · by_cases c2 : w < a
    · simp [c1, c2]
    · simp [c1, c2, show a ≤ w by omega]
  · simp [c1, show w ≤ b by omega]
theorem lawunwell_ok {folk : List Int} {d : Nat} {R : List (List Int)} {D : List Int} (f : Fk folk) (h : Hou folk d R D) (hd : d ≤ 60) (h1 : 1 ≤ d) {Q : Vl → Vl → Prop} (q : Q (.l ((unwellL R D).map .i), .t) (.n, .c)) : wFn fn__law_unwell [(hs R D, .c)] Q := by
  have hld := h.ld
  simp_arith [fn__law_unwell, m__law_unwell, hs]
  have er : rngD 1 ((D.length : Int) - 1).toNat = (List.range (D.length - 1)).map fun k : Nat => Dt.i ((k : Int) + 1) := by
    rw [rngD, show ((D.length : Int) - 1).toNat = D.length - 1 by omega]
    refine List.map_congr_left fun k _ => ?_
    rw [Int.add_comm]
  refine ⟨by omega, by rw [rngD_len]; omega, ?_⟩
  rw [er]
  refine ⟨_, _, lc_fM (fun k : Nat => decide (D.getD (k + 1) 0 < D.getD k 0) && decide (seenL (D.getD (k + 1) 0) (D.getD k 0) (R.getD (k + 1) []) = [])) (fun k : Nat => .i ((k : Int) + 1)) fun k hk => ?_, ?_⟩
  · have hk := List.mem_range.mp hk
    simp_arith [true_and]
    refine seen_ok f h hd (show k + 1 < d by omega) (fun c => ?_) fun c => ?_
    · simp only [c, decide_true, Bool.true_and]
      simp_arith [wO_eqL0]
    · simp only [c, decide_false, Bool.false_and]
      simp_arith [true_and]
  · simp_arith [true_and]
    rw [unwellL, List.map_map] at q
    exact q
theorem made_ok {folk : List Int} {d : Nat} {R : List (List Int)} {D : List Int} (f : Fk folk) (h : Hou folk d R D) (hd : d ≤ 60) {Q : Vl → Vl → Prop} (q : Q (hs R D, .c) (.n, .c)) : wFn fn_made [(hs R D, .c)] Q := by
  have hlr := h.lr
  have hld := h.ld
  have hfl := f.len
  simp_arith [fn_made, m_made, hs]
  simp_arith! [true_and]
  refine ⟨by omega, _, _, lc_mM rm fun r hr => ?_, ?_⟩
  · have := h.rlen hr
    simp_arith [rm]
  · simp_arith [true_and]
    exact q
theorem moved_ok {folk : List Int} {d : Nat} {R : List (List Int)} {D : List Int} (f : Fk folk) (h : Hou folk d R D) (hd : d ≤ 60) {w : Int} {b e : Nat} {rb re : List Int} (hbe : b ≠ e) (hb : R[b]? = some rb) (he : R[e]? = some re) {kb ke : Int} (eb : kb = b) (ee : ke = e) {Q : Vl → Vl → Prop} (q : Q (.t (((R.set b (rb.filter fun v => decide (v ≠ w))).set e (isrt (re ++ [w]))).map rm), .c) (.n, .c)) : wFn fn_moved [(.t (R.map rm), .c), (.i w, .c), (.i kb, .c), (.i ke, .c)] Q := by
  subst eb ee
  have hlr := h.lr
  have hb1 := (List.getElem?_eq_some_iff.mp hb).1
  have he1 := (List.getElem?_eq_some_iff.mp he).1
  have lb : rb.length ≤ 60 := by have := h.rlen (List.mem_of_getElem? hb); have := f.len; omega
  have le : re.length ≤ 60 := by have := h.rlen (List.mem_of_getElem? he); have := f.len; omega
  simp_arith [fn_moved, m_moved]
  simp_arith! [true_and]
  simp_arith! [true_and]
  refine wAt_M (by omega) (by omega) fun r1 hr1 => ?_
  rw [Int.toNat_natCast, hb] at hr1
  obtain rfl := Option.some.inj hr1
  simp_arith [rm]
  refine ⟨by omega, _, _, lc_fI (fun v => decide (v ≠ w)) .i fun v hv => ?_, ?_⟩
  · simp_arith [true_and]
    simp
  · simp_arith [true_and]
    refine wSt_M (f := rm) (y := rb.filter fun v => decide (v ≠ w)) (by omega) (by omega) ?_
    rw [Int.toNat_natCast]
    simp_arith! [true_and]
    refine wAt_M (by omega) (by rw [List.length_set]; omega) fun r2 hr2 => ?_
    rw [Int.toNat_natCast, List.getElem?_set_ne hbe, he] at hr2
    obtain rfl := Option.some.inj hr2
    simp_arith [rm]
    refine ⟨by omega, ?_⟩
    rw [show re.map Dt.i ++ [Dt.i w] = (re ++ [w]).map Dt.i by simp, wO_srtT (by simp; omega)]
    simp_arith [true_and]
    refine wSt_M (f := rm) (y := isrt (re ++ [w])) (by omega) (by rw [List.length_set]; omega) ?_
    rw [Int.toNat_natCast]
    simp_arith [true_and]
    exact q
/-- is it let? -/
def letB (R : List (List Int)) (D : List Int) (w : Int) (k : Nat) : Bool := decide ((w ∈ R.getD k [] ∧ D.getD k 0 < w) ∨ (w ∈ R.getD (k + 1) [] ∧ w < D.getD k 0))
theorem wayany_ok {folk : List Int} {d : Nat} {R : List (List Int)} {D : List Int} (f : Fk folk) (h : Hou folk d R D) (hd : d ≤ 60) {w : Int} {k : Nat} (hk : k < d) {x : Dt} (hx : x = hs R D ∨ x = hl R D) {Q : Vl → Vl → Prop} (q1 : letB R D w k = true → ∀ z : Str, Q (.s z, .c) (.n, .c)) (q2 : letB R D w k = false → Q (.n, .c) (.n, .c)) : wFn fn_way_let [(x, .c), (.i w, .c), (.i ((k : Int) + 1), .c)] Q := by
  have hlr := h.lr
  have hld := h.ld
  have ha : D[k]? = some (D.getD k 0) := by rw [List.getD_eq_getElem?_getD, List.getElem?_eq_getElem (by omega)]; rfl
  have e0 : R[k]? = some (R.getD k []) := by rw [List.getD_eq_getElem?_getD, List.getElem?_eq_getElem (by omega)]; rfl
  have e1 : R[k + 1]? = some (R.getD (k + 1) []) := by rw [List.getD_eq_getElem?_getD, List.getElem?_eq_getElem (by omega)]; rfl
  unfold letB at q1 q2
  generalize D.getD k 0 = a at ha q1 q2
  generalize R.getD k [] = r0 at e0 q1 q2
  generalize R.getD (k + 1) [] = r1 at e1 q1 q2
  rcases hx with rfl | rfl
  · simp_arith [fn_way_let, m_way_let, hs]
    simp_arith! [true_and]
    simp_arith! [true_and]
    refine ⟨fun _ => ⟨fun c => absurd (by omega) c, fun _ => ?_⟩, fun c => absurd (by omega) c⟩
    simp_arith! [true_and]
    refine wAt_M (by omega) (by omega) fun r hr => ?_
    rw [show ((k : Int) + 1 - 1).toNat = k by omega, e0] at hr
    obtain rfl := Option.some.inj hr
    simp_arith [rm, wO_inT]
    refine ⟨fun hw => wAt_i (by omega) (by omega) fun b hb => ?_, fun hw => ?_⟩
    · rw [show ((k : Int) + 1 - 1).toNat = k by omega, ha] at hb
      obtain rfl := Option.some.inj hb
      simp_arith [true_and]
      refine ⟨fun c => q1 (by simp [hw, c]) _, fun c => ?_⟩
      refine wAt_M (by omega) (by omega) fun r hr => ?_
      rw [show ((k : Int) + 1).toNat = k + 1 by omega, e1] at hr
      obtain rfl := Option.some.inj hr
      simp_arith [rm, wO_inT]
      refine ⟨fun hw1 => wAt_i (by omega) (by omega) fun b hb => ?_, fun hw1 => q2 (by simp [hw1, c])⟩
      rw [show ((k : Int) + 1 - 1).toNat = k by omega, ha] at hb
      obtain rfl := Option.some.inj hb
      simp_arith [true_and]
      exact ⟨fun c1 => q1 (by simp [hw1, c1]) _, fun c1 => q2 (by simp [c1, c])⟩
    · refine wAt_M (by omega) (by omega) fun r hr => ?_
      rw [show ((k : Int) + 1).toNat = k + 1 by omega, e1] at hr
      obtain rfl := Option.some.inj hr
      simp_arith [rm, wO_inT]
      refine ⟨fun hw1 => wAt_i (by omega) (by omega) fun b hb => ?_, fun hw1 => q2 (by simp [hw1, hw])⟩
      rw [show ((k : Int) + 1 - 1).toNat = k by omega, ha] at hb
      obtain rfl := Option.some.inj hb
      simp_arith [true_and]
      exact ⟨fun c1 => q1 (by simp [hw1, c1]) _, fun c1 => q2 (by simp [c1, hw])⟩
  · simp_arith [fn_way_let, m_way_let, hl]
    simp_arith! [true_and]
    simp_arith! [true_and]
    refine ⟨fun _ => ⟨fun c => absurd (by omega) c, fun _ => ?_⟩, fun c => absurd (by omega) c⟩
    simp_arith! [true_and]
    refine wAt_M (by omega) (by omega) fun r hr => ?_
    rw [show ((k : Int) + 1 - 1).toNat = k by omega, e0] at hr
    obtain rfl := Option.some.inj hr
    simp_arith [lm, wO_inL]
    refine ⟨fun hw => wAt_i (by omega) (by omega) fun b hb => ?_, fun hw => ?_⟩
    · rw [show ((k : Int) + 1 - 1).toNat = k by omega, ha] at hb
      obtain rfl := Option.some.inj hb
      simp_arith [true_and]
      refine ⟨fun c => q1 (by simp [hw, c]) _, fun c => ?_⟩
      refine wAt_M (by omega) (by omega) fun r hr => ?_
      rw [show ((k : Int) + 1).toNat = k + 1 by omega, e1] at hr
      obtain rfl := Option.some.inj hr
      simp_arith [lm, wO_inL]
      refine ⟨fun hw1 => wAt_i (by omega) (by omega) fun b hb => ?_, fun hw1 => q2 (by simp [hw1, c])⟩
      rw [show ((k : Int) + 1 - 1).toNat = k by omega, ha] at hb
      obtain rfl := Option.some.inj hb
      simp_arith [true_and]
      exact ⟨fun c1 => q1 (by simp [hw1, c1]) _, fun c1 => q2 (by simp [c1, c])⟩
    · refine wAt_M (by omega) (by omega) fun r hr => ?_
      rw [show ((k : Int) + 1).toNat = k + 1 by omega, e1] at hr
      obtain rfl := Option.some.inj hr
      simp_arith [lm, wO_inL]
      refine ⟨fun hw1 => wAt_i (by omega) (by omega) fun b hb => ?_, fun hw1 => q2 (by simp [hw1, hw])⟩
      rw [show ((k : Int) + 1 - 1).toNat = k by omega, ha] at hb
      obtain rfl := Option.some.inj hb
      simp_arith [true_and]
      exact ⟨fun c1 => q1 (by simp [hw1, c1]) _, fun c1 => q2 (by simp [c1, hw])⟩
theorem way_let_ok {folk : List Int} {d : Nat} {R : List (List Int)} {D : List Int} (f : Fk folk) (h : Hou folk d R D) (hd : d ≤ 60) {w : Int} {k : Nat} (hk : k < d) (l : Let R D w k) {Q : Vl → Vl → Prop} (q1 : w ∈ R.getD k [] → Q (.s (PySem.Str.ofString "forth"), .c) (.n, .c)) (q2 : ¬ w ∈ R.getD k [] → Q (.s (PySem.Str.ofString "back"), .c) (.n, .c)) : wFn fn_way_let [(hs R D, .c), (.i w, .c), (.i ((k : Int) + 1), .c)] Q := by
  have hlr := h.lr
  have hld := h.ld
  have hk0 : k < D.length := by omega
  simp_arith [fn_way_let, m_way_let, hs]
  simp_arith! [true_and]
  simp_arith! [true_and]
  have ha : D[k]? = some (D.getD k 0) := by rw [List.getD_eq_getElem?_getD, List.getElem?_eq_getElem hk0]; rfl
  have e0 : R[k]? = some (R.getD k []) := by rw [List.getD_eq_getElem?_getD, List.getElem?_eq_getElem (by omega)]; rfl
  have e1 : R[k + 1]? = some (R.getD (k + 1) []) := by rw [List.getD_eq_getElem?_getD, List.getElem?_eq_getElem (by omega)]; rfl
  unfold Let at l
  generalize D.getD k 0 = a at ha l
  generalize R.getD k [] = r0 at e0 l q1 q2
  generalize R.getD (k + 1) [] = r1 at e1 l
  refine ⟨fun _ => ⟨fun c => absurd (by omega) c, fun _ => ?_⟩, fun c => absurd (by omega) c⟩
  simp_arith! [true_and]
  refine wAt_M (by omega) (by omega) fun r hr => ?_
  rw [show ((k : Int) + 1 - 1).toNat = k by omega, e0] at hr
  obtain rfl := Option.some.inj hr
  simp_arith [rm, wO_inT]
  refine ⟨fun hw => wAt_i (by omega) (by omega) fun b hb => ?_, fun hw => ?_⟩
  · rw [show ((k : Int) + 1 - 1).toNat = k by omega, ha] at hb
    obtain rfl := Option.some.inj hb
    have hl : a < w := by rcases l with l | l; exact l.2; exact absurd hw l.1
    simp_arith [true_and]
    exact ⟨fun _ => q1 hw, fun c => absurd hl c⟩
  · have hl := l.resolve_left fun c => hw c.1
    simp_arith! [true_and]
    refine wAt_M (by omega) (by omega) fun r hr => ?_
    rw [show ((k : Int) + 1).toNat = k + 1 by omega, e1] at hr
    obtain rfl := Option.some.inj hr
    simp_arith [rm, wO_inT]
    refine ⟨fun _ => wAt_i (by omega) (by omega) fun b hb => ?_, fun c => absurd hl.2.1 c⟩
    rw [show ((k : Int) + 1 - 1).toNat = k by omega, ha] at hb
    obtain rfl := Option.some.inj hb
    simp_arith [true_and]
    exact ⟨fun _ => q2 hw, fun c => absurd hl.2.2 c⟩
theorem way_ok {folk : List Int} {d : Nat} {R : List (List Int)} {D : List Int} (f : Fk folk) (h : Hou folk d R D) (hd : d ≤ 60) {w : Int} {k : Nat} (hk : k < d) (l : Let R D w k) {Q : Vl → Vl → Prop} (q1 : w ∈ R.getD k [] → Q (.s (PySem.Str.ofString "forth"), .c) (.n, .c)) (q2 : ¬ w ∈ R.getD k [] → Q (.s (PySem.Str.ofString "back"), .c) (.n, .c)) : wFn fn_way [(hs R D, .c), (pr (w, (k : Int) + 1), .c)] Q := by
  simp_arith [fn_way, m_way, pr]
  simp_arith! [true_and]
  refine way_let_ok f h hd hk l (fun c => ?_) fun c => ?_
  · simp_arith [true_and]
    simp_arith! [true_and]
    exact q1 c
  · simp_arith [true_and]
    simp_arith! [true_and]
    exact q2 c
theorem gone_ok {folk : List Int} {d : Nat} {R : List (List Int)} {D : List Int} (f : Fk folk) (h : Hou folk d R D) (hd : d ≤ 60) {w : Int} {k : Nat} (hk : k < d) (l : Let R D w k) {Q : Vl → Vl → Prop} (q : Q (hs (behR R w k) (D.set k w), .c) (.n, .c)) : wFn fn_gone [(hs R D, .c), (pr (w, (k : Int) + 1), .c)] Q := by
  have hlr := h.lr
  have hld := h.ld
  have e0 : R[k]? = some (R.getD k []) := by rw [List.getD_eq_getElem?_getD, List.getElem?_eq_getElem (by omega)]; rfl
  have e1 : R[k + 1]? = some (R.getD (k + 1) []) := by rw [List.getD_eq_getElem?_getD, List.getElem?_eq_getElem (by omega)]; rfl
  have eD : (D.map Dt.i).take k ++ [Dt.i w] ++ (D.map Dt.i).drop (k + 1) = (D.set k w).map Dt.i := by
    rw [List.set_eq_take_append_cons_drop, if_pos (by omega)]
    simp
  simp_arith [fn_gone, m_gone]
  simp_arith! [true_and]
  simp_arith [pr]
  simp_arith! [true_and]
  refine way_ok f h hd hk l (fun c => ?_) fun c => ?_
  · simp_arith [true_and]
    simp_arith! [true_and]
    refine made_ok f h hd ?_
    simp_arith [hs]
    simp_arith! [true_and]
    refine moved_ok f h hd (b := k) (e := k + 1) (w := w) (by omega) e0 e1 (by omega) (by omega) ?_
    rw [cutD_hi (by omega), cutD_lo (by omega), show ((k : Int) + 1 - 1).toNat = k by omega, show ((k : Int) + 1).toNat = k + 1 by omega, eD]
    refine ⟨by simp; omega, by simp; omega, ?_⟩
    have eR : behR R w k = (R.set k ((R.getD k []).filter fun v => decide (v ≠ w))).set (k + 1) (isrt (R.getD (k + 1) [] ++ [w])) := by
      simp only [behR, if_pos c]
    rw [← eR]
    exact q
  · simp_arith [true_and]
    simp_arith! [true_and]
    refine made_ok f h hd ?_
    simp_arith [hs]
    simp_arith! [true_and]
    refine ⟨fun e => absurd e (by decide), fun _ => ?_⟩
    refine moved_ok f h hd (b := k + 1) (e := k) (w := w) (by omega) e1 e0 (by omega) (by omega) ?_
    rw [cutD_hi (by omega), cutD_lo (by omega), show ((k : Int) + 1 - 1).toNat = k by omega, show ((k : Int) + 1).toNat = k + 1 by omega, eD]
    refine ⟨by simp; omega, by simp; omega, ?_⟩
    have eR : behR R w k = (R.set (k + 1) ((R.getD (k + 1) []).filter fun v => decide (v ≠ w))).set k (isrt (R.getD k [] ++ [w])) := by
      simp only [behR, if_neg c]
    rw [← eR]
    exact q
/-- the doors at a room -/
def nearL (R : List (List Int)) (i : Nat) : List Int := [(i : Int), (i : Int) + 1].filter fun z => decide (0 < z ∧ z < (R.length : Int))
def goAt (R : List (List Int)) (D : List Int) (i : Nat) : List (Int × Int) := (R.getD i []).flatMap fun w => ((nearL R i).filter fun z => letB R D w (z.toNat - 1)).map fun z => (w, z)
def goTo (R : List (List Int)) (D : List Int) (k : Nat) : List (Int × Int) := (List.range k).flatMap (goAt R D)
theorem goTo_s (R : List (List Int)) (D : List Int) (k : Nat) : goTo R D (k + 1) = goTo R D k ++ goAt R D k := by simp [goTo, List.range_succ]
theorem goAt_len {R : List (List Int)} {D : List Int} {i : Nat} : (goAt R D i).length ≤ (R.getD i []).length * 2 := by
  unfold goAt
  induction R.getD i [] with
  | nil => simp
  | cons w ws ih =>
    rw [List.flatMap_cons, List.length_append, List.length_map, List.length_cons]
    have h1 := List.length_filter_le (fun z : Int => letB R D w (z.toNat - 1)) (nearL R i)
    have h2 : (nearL R i).length ≤ 2 := List.length_filter_le _ _
    omega
theorem may_go_ok {folk : List Int} {d : Nat} {R : List (List Int)} {D : List Int} (f : Fk folk) (h : Hou folk d R D) (hd : d ≤ 60) {Q : Vl → Vl → Prop} (q : Q (.l ((psrt (goTo R D R.length)).map pr), .t) (.n, .c)) : wFn fn_may_go [(hs R D, .c)] Q := by
  have hfl := f.len
  have hlr := h.lr
  have rl : ∀ j, (R.getD j []).length ≤ 60 := fun j => by
    rw [List.getD_eq_getElem?_getD]
    cases e : R[j]? with
    | none => simp
    | some r => have := h.rlen (List.mem_of_getElem? e); simp; omega
  have gl : ∀ k, (goTo R D k).length ≤ k * 120 := by
    intro k
    induction k with
    | zero => simp [goTo]
    | succ k ih =>
      rw [goTo_s, List.length_append]
      have := goAt_len (R := R) (D := D) (i := k)
      have := rl k
      omega
  simp_arith [fn_may_go, m_may_go, hs]
  simp_arith! [true_and]
  rw [wS_seq]
  refine wS_for' ?_
  simp_arith [true_and]
  refine ⟨fun k r => ∃ o2 o3 o4, r = [some (.t [.t (R.map rm), .t (D.map .i)], .c), some (.l ((goTo R D k).map pr), .t), o2, o3, o4, none, none] ∧ k ≤ R.length, ⟨none, none, none, rfl, Nat.zero_le _⟩, ?_, ?_⟩
  · rintro k x _ hx ⟨o2, o3, o4, rfl, hk⟩
    obtain ⟨y, hy, rfl⟩ := enumD_mem hx
    rw [List.getElem?_map, Option.map_eq_some_iff] at hy
    obtain ⟨r, hr, rfl⟩ := hy
    have hk2 := (List.getElem?_eq_some_iff.mp hr).1
    have er : R.getD k [] = r := by rw [List.getD_eq_getElem?_getD, hr]; rfl
    have g0 := gl k
    have r0 := rl k
    simp_arith [true_and]
    simp_arith! [true_and]
    rw [show [Dt.i (k : Int), Dt.i ((k : Int) + 1)] = [(k : Int), (k : Int) + 1].map .i from rfl]
    refine ⟨_, _, lc_fI (fun z => decide (0 < z ∧ z < (R.length : Int))) .i fun z hz => ?_, ?_⟩
    · simp_arith [true_and]
      exact ⟨fun c => by simp [c], fun c => by simp [c]⟩
    · have en : [(k : Int), (k : Int) + 1].filter (fun z => decide (0 < z ∧ z < (R.length : Int))) = nearL R k := rfl
      have ln : (nearL R k).length ≤ 2 := List.length_filter_le _ _
      have mn : ∀ z ∈ nearL R k, 0 < z ∧ z < (R.length : Int) := fun z hz => by simpa using (List.mem_filter.mp hz).2
      have eg : (r.flatMap fun w => ((nearL R k).filter fun z => letB R D w (z.toNat - 1)).map fun z => pr (w, z)) = (goAt R D k).map pr := by
        rw [goAt, er, List.map_flatMap]
        simp only [List.map_map, Function.comp_def]
      have gk := goAt_len (R := R) (D := D) (i := k)
      have lim : LIM = 1000000 := rfl
      simp_arith [true_and]
      rw [en]
      simp_arith [rm]
      have lc := fun fe => lc2_inv (f := Dt.i) (fe := fe) (vs := [6, 5]) (vs1 := [5]) (t := tgV 6) (c := mYes) (s1 := mS sSq [.v 4]) (t1 := tgV 5) (c1 := mTe (mP fNot [.e (mC fn_way_let [.v 0, .v 6, .v 5]), .e (mK .n)])) (fun r' => ∃ m4, (m4 = .t ∨ m4 = .c) ∧ r' = [some (.t [.t (R.map rm), .t (D.map .i)], .c), some (.l ((goTo R D k).map pr), .t), some (.i (k : Int), .c), some (.t (r.map .i), .c), some (.l ((nearL R k).map .i), m4), none, none]) (fun w => ((nearL R k).filter fun z => letB R D w (z.toNat - 1)).map fun z => pr (w, z)) r [some (.t [.t (R.map rm), .t (D.map .i)], .c), some (.l ((goTo R D k).map pr), .t), some (.i (k : Int), .c), some (.t (r.map .i), .c), some (.l ((nearL R k).map .i), .t), none, none] [] ⟨.t, .inl rfl, rfl⟩
      obtain ⟨rf, ⟨m4, hm4, rfl⟩, e2⟩ := lc (mP fTup [.v 6, .v 5]) (fun w hw r' ⟨m4, hm4, hr'⟩ => by
        subst hr'
        rcases hm4 with rfl | rfl
        all_goals
          simp_arith [true_and]
          refine ⟨_, lc_fI (fun z => letB R D w (z.toNat - 1)) (fun z => pr (w, z)) fun z hz => ?_, ?_⟩
          · obtain ⟨z0, z1⟩ := mn z hz
            obtain ⟨j, rfl⟩ : ∃ j : Nat, z = (j : Int) + 1 := ⟨(z - 1).toNat, by omega⟩
            rw [show ((j : Int) + 1).toNat - 1 = j by omega]
            simp_arith [true_and]
            refine wayany_ok f h hd (show j < d by omega) (.inl rfl) (fun c z => ?_) fun c => ?_
            · rw [c]
              simp_arith [isn, pr]
            · rw [c]
              simp_arith [isn, pr]
          · simp_arith [true_and]
            exact ⟨⟨.c, .inr rfl, rfl⟩, by omega⟩) (by rw [eg, List.length_map]; simp only [List.length_nil]; omega)
      refine ⟨_, _, e2, ?_⟩
      rw [eg, List.nil_append]
      simp_arith [true_and]
      refine ⟨by omega, some (.i (k : Int), .c), some (.t (r.map .i), .c), some (.l ((nearL R k).map .i), m4), ?_, by omega⟩
      rw [goTo_s, List.map_append]
  · rintro _ ⟨o2, o3, o4, rfl, hk⟩
    rw [enumD_len, List.length_map]
    have := gl R.length
    simp_arith [true_and]
    rw [wO_srtP (show (goTo R D R.length).length ≤ LIM by have : LIM = 1000000 := rfl; omega)]
    simp_arith [true_and]
    exact q
theorem may_goL_ok {folk : List Int} {d : Nat} {R : List (List Int)} {D : List Int} (f : Fk folk) (h : Hou folk d R D) (hd : d ≤ 60) {Q : Vl → Vl → Prop} (q : Q (.l ((psrt (goTo R D R.length)).map pr), .t) (.n, .c)) : wFn fn_may_go [(hl R D, .c)] Q := by
  have hfl := f.len
  have hlr := h.lr
  have rl : ∀ j, (R.getD j []).length ≤ 60 := fun j => by
    rw [List.getD_eq_getElem?_getD]
    cases e : R[j]? with
    | none => simp
    | some r => have := h.rlen (List.mem_of_getElem? e); simp; omega
  have gl : ∀ k, (goTo R D k).length ≤ k * 120 := by
    intro k
    induction k with
    | zero => simp [goTo]
    | succ k ih =>
      rw [goTo_s, List.length_append]
      have := goAt_len (R := R) (D := D) (i := k)
      have := rl k
      omega
  simp_arith [fn_may_go, m_may_go, hl]
  simp_arith! [true_and]
  rw [wS_seq]
  refine wS_for' ?_
  simp_arith [true_and]
  refine ⟨fun k r => ∃ o2 o3 o4, r = [some (.l [.l (R.map lm), .l (D.map .i)], .c), some (.l ((goTo R D k).map pr), .t), o2, o3, o4, none, none] ∧ k ≤ R.length, ⟨none, none, none, rfl, Nat.zero_le _⟩, ?_, ?_⟩
  · rintro k x _ hx ⟨o2, o3, o4, rfl, hk⟩
    obtain ⟨y, hy, rfl⟩ := enumD_mem hx
    rw [List.getElem?_map, Option.map_eq_some_iff] at hy
    obtain ⟨r, hr, rfl⟩ := hy
    have hk2 := (List.getElem?_eq_some_iff.mp hr).1
    have er : R.getD k [] = r := by rw [List.getD_eq_getElem?_getD, hr]; rfl
    have g0 := gl k
    have r0 := rl k
    simp_arith [true_and]
    simp_arith! [true_and]
    rw [show [Dt.i (k : Int), Dt.i ((k : Int) + 1)] = [(k : Int), (k : Int) + 1].map .i from rfl]
    refine ⟨_, _, lc_fI (fun z => decide (0 < z ∧ z < (R.length : Int))) .i fun z hz => ?_, ?_⟩
    · simp_arith [true_and]
      exact ⟨fun c => by simp [c], fun c => by simp [c]⟩
    · have en : [(k : Int), (k : Int) + 1].filter (fun z => decide (0 < z ∧ z < (R.length : Int))) = nearL R k := rfl
      have ln : (nearL R k).length ≤ 2 := List.length_filter_le _ _
      have mn : ∀ z ∈ nearL R k, 0 < z ∧ z < (R.length : Int) := fun z hz => by simpa using (List.mem_filter.mp hz).2
      have eg : (r.flatMap fun w => ((nearL R k).filter fun z => letB R D w (z.toNat - 1)).map fun z => pr (w, z)) = (goAt R D k).map pr := by
        rw [goAt, er, List.map_flatMap]
        simp only [List.map_map, Function.comp_def]
      have gk := goAt_len (R := R) (D := D) (i := k)
      have lim : LIM = 1000000 := rfl
      simp_arith [true_and]
      rw [en]
      simp_arith [lm]
      have lc := fun fe => lc2_inv (f := Dt.i) (fe := fe) (vs := [6, 5]) (vs1 := [5]) (t := tgV 6) (c := mYes) (s1 := mS sSq [.v 4]) (t1 := tgV 5) (c1 := mTe (mP fNot [.e (mC fn_way_let [.v 0, .v 6, .v 5]), .e (mK .n)])) (fun r' => ∃ m4, (m4 = .t ∨ m4 = .c) ∧ r' = [some (.l [.l (R.map lm), .l (D.map .i)], .c), some (.l ((goTo R D k).map pr), .t), some (.i (k : Int), .c), some (.l (r.map .i), .c), some (.l ((nearL R k).map .i), m4), none, none]) (fun w => ((nearL R k).filter fun z => letB R D w (z.toNat - 1)).map fun z => pr (w, z)) r [some (.l [.l (R.map lm), .l (D.map .i)], .c), some (.l ((goTo R D k).map pr), .t), some (.i (k : Int), .c), some (.l (r.map .i), .c), some (.l ((nearL R k).map .i), .t), none, none] [] ⟨.t, .inl rfl, rfl⟩
      obtain ⟨rf, ⟨m4, hm4, rfl⟩, e2⟩ := lc (mP fTup [.v 6, .v 5]) (fun w hw r' ⟨m4, hm4, hr'⟩ => by
        subst hr'
        rcases hm4 with rfl | rfl
        all_goals
          simp_arith [true_and]
          refine ⟨_, lc_fI (fun z => letB R D w (z.toNat - 1)) (fun z => pr (w, z)) fun z hz => ?_, ?_⟩
          · obtain ⟨z0, z1⟩ := mn z hz
            obtain ⟨j, rfl⟩ : ∃ j : Nat, z = (j : Int) + 1 := ⟨(z - 1).toNat, by omega⟩
            rw [show ((j : Int) + 1).toNat - 1 = j by omega]
            simp_arith [true_and]
            refine wayany_ok f h hd (show j < d by omega) (.inr rfl) (fun c z => ?_) fun c => ?_
            · rw [c]
              simp_arith [isn, pr]
            · rw [c]
              simp_arith [isn, pr]
          · simp_arith [true_and]
            exact ⟨⟨.c, .inr rfl, rfl⟩, by omega⟩) (by rw [eg, List.length_map]; simp only [List.length_nil]; omega)
      refine ⟨_, _, e2, ?_⟩
      rw [eg, List.nil_append]
      simp_arith [true_and]
      refine ⟨by omega, some (.i (k : Int), .c), some (.l (r.map .i), .c), some (.l ((nearL R k).map .i), m4), ?_, by omega⟩
      rw [goTo_s, List.map_append]
  · rintro _ ⟨o2, o3, o4, rfl, hk⟩
    rw [enumD_len, List.length_map]
    have := gl R.length
    simp_arith [true_and]
    rw [wO_srtP (show (goTo R D R.length).length ≤ LIM by have : LIM = 1000000 := rfl; omega)]
    simp_arith [true_and]
    exact q
theorem mem_goToU {folk : List Int} {d : Nat} {R : List (List Int)} {D : List Int} (h : Hou folk d R D) {p : Int × Int} : p ∈ goTo R D R.length ↔ ∃ k : Nat, k < d ∧ p.2 = (k : Int) + 1 ∧ ((p.1 ∈ R.getD k [] ∧ D.getD k 0 < p.1) ∨ (p.1 ∈ R.getD (k + 1) [] ∧ p.1 < D.getD k 0)) := by
  have hlr := h.lr
  obtain ⟨w, z⟩ := p
  simp only [goTo, goAt, List.mem_flatMap, List.mem_range, List.mem_map, List.mem_filter, nearL, letB, decide_eq_true_eq, List.mem_cons, List.not_mem_nil, or_false, Prod.mk.injEq]
  constructor
  · rintro ⟨i, hi, w', hw, z', ⟨⟨hz, z0, z1⟩, hl⟩, rfl, rfl⟩
    refine ⟨z'.toNat - 1, by omega, by omega, hl⟩
  · rintro ⟨k, hk, rfl, ⟨hw, hm⟩ | ⟨hw, hm⟩⟩
    · refine ⟨k, by omega, w, hw, (k : Int) + 1, ⟨⟨.inr rfl, by omega, by omega⟩, .inl ?_⟩, rfl, rfl⟩
      rw [show ((k : Int) + 1).toNat - 1 = k by omega]
      exact ⟨hw, hm⟩
    · refine ⟨k + 1, by omega, w, hw, (k : Int) + 1, ⟨⟨.inl (by omega), by omega, by omega⟩, .inr ?_⟩, rfl, rfl⟩
      rw [show ((k : Int) + 1).toNat - 1 = k by omega]
      exact ⟨hw, hm⟩
theorem goAt_fstU {R : List (List Int)} {D : List Int} {i : Nat} {p : Int × Int} (hp : p ∈ goAt R D i) : p.1 ∈ R.getD i [] := by
  unfold goAt at hp
  obtain ⟨w, hw, hp⟩ := List.mem_flatMap.mp hp
  obtain ⟨z, _, rfl⟩ := List.mem_map.mp hp
  exact hw
theorem goAt_ndU {R : List (List Int)} {D : List Int} {i : Nat} (h : (R.getD i []).Nodup) : (goAt R D i).Nodup := by
  unfold goAt
  generalize R.getD i [] = l at h ⊢
  induction l with
  | nil => simp
  | cons w ws ih =>
    obtain ⟨n1, n2⟩ := List.nodup_cons.mp h
    rw [List.flatMap_cons]
    refine List.nodup_append.mpr ⟨?_, ih n2, ?_⟩
    · refine List.pairwise_map.mpr ?_
      have nn : (nearL R i).Nodup := by
        unfold nearL
        refine List.Pairwise.filter _ ?_
        simp
        omega
      exact (nn.filter _).imp fun h e => h (congrArg Prod.snd e)
    · rintro a ha b hb rfl
      obtain ⟨z, _, rfl⟩ := List.mem_map.mp ha
      obtain ⟨u, hu, hb⟩ := List.mem_flatMap.mp hb
      obtain ⟨z', _, e⟩ := List.mem_map.mp hb
      have e : u = w := congrArg Prod.fst e
      subst e
      exact n1 hu
theorem goTo_ndU {folk : List Int} {d : Nat} {R : List (List Int)} {D : List Int} (f : Fk folk) (h : Hou folk d R D) : ∀ {k : Nat}, k ≤ d + 1 → (goTo R D k).Nodup
  | 0, _ => by simp [goTo]
  | k + 1, hk => by
    have hlr := h.lr
    have e : R[k]? = some (R.getD k []) := by rw [List.getD_eq_getElem?_getD, List.getElem?_eq_getElem (by omega)]; rfl
    rw [goTo_s]
    refine List.nodup_append.mpr ⟨goTo_ndU f h (by omega), goAt_ndU ((h.srt _ (List.mem_of_getElem? e)).imp fun h => by omega), ?_⟩
    rintro a ha b hb rfl
    obtain ⟨j, hj, ha⟩ := List.mem_flatMap.mp ha
    have hj := List.mem_range.mp hj
    exact h.one f hj (goAt_fstU ha) (goAt_fstU hb)
theorem go_stepsU {folk : List Int} {d : Nat} {R : List (List Int)} {D : List Int} (f : Fk folk) (h : Hou folk d R D) : psrt (goTo R D R.length) = steps R D := by
  unfold steps
  refine psrt_sameU (goTo_ndU f h (by rw [h.lr]; exact Nat.le_refl _)) (stepsTo_ndU f h (by rw [h.ld]; exact Nat.le_refl _)) fun p => ?_
  rw [mem_goToU h, ← h.ld]
  have := mem_steps (R := R) (D := D) (p := p)
  unfold steps at this
  rw [(psrt_perm _).mem_iff] at this
  exact this.symm
theorem mem_goTo {folk : List Int} {d : Nat} {R : List (List Int)} {D : List Int} (h : Hou folk d R D) {p : Int × Int} : p ∈ goTo R D R.length ↔ ∃ k : Nat, k < d ∧ p.2 = (k : Int) + 1 ∧ ((p.1 ∈ R.getD k [] ∧ D.getD k 0 < p.1) ∨ (p.1 ∈ R.getD (k + 1) [] ∧ p.1 < D.getD k 0)) := by
  have hlr := h.lr
  obtain ⟨w, z⟩ := p
  simp only [goTo, goAt, List.mem_flatMap, List.mem_range, List.mem_map, List.mem_filter, nearL, letB, decide_eq_true_eq, List.mem_cons, List.not_mem_nil, or_false, Prod.mk.injEq]
  constructor
  · rintro ⟨i, hi, w', hw, z', ⟨⟨hz, z0, z1⟩, hl⟩, rfl, rfl⟩
    refine ⟨z'.toNat - 1, by omega, by omega, hl⟩
  · rintro ⟨k, hk, rfl, ⟨hw, hm⟩ | ⟨hw, hm⟩⟩
    · refine ⟨k, by omega, w, hw, (k : Int) + 1, ⟨⟨.inr rfl, by omega, by omega⟩, .inl ?_⟩, rfl, rfl⟩
      rw [show ((k : Int) + 1).toNat - 1 = k by omega]
      exact ⟨hw, hm⟩
    · refine ⟨k + 1, by omega, w, hw, (k : Int) + 1, ⟨⟨.inl (by omega), by omega, by omega⟩, .inr ?_⟩, rfl, rfl⟩
      rw [show ((k : Int) + 1).toNat - 1 = k by omega]
      exact ⟨hw, hm⟩
theorem goTo_mem {folk : List Int} {d : Nat} {R : List (List Int)} {D : List Int} (h : Hou folk d R D) {p : Int × Int} : p ∈ goTo R D R.length ↔ p ∈ steps R D := by
  rw [mem_goTo h, mem_steps, h.ld]
theorem goTo_nil {folk : List Int} {d : Nat} {R : List (List Int)} {D : List Int} (h : Hou folk d R D) : (psrt (goTo R D R.length)).length = 0 ↔ steps R D = [] := by
  rw [psrt_len, List.length_eq_zero_iff, List.eq_nil_iff_forall_not_mem, List.eq_nil_iff_forall_not_mem]
  exact forall_congr' fun p => not_congr (goTo_mem h)
theorem is_end_ok {folk : List Int} {d : Nat} {R : List (List Int)} {D : List Int} (f : Fk folk) (h : Hou folk d R D) (hd : d ≤ 60) {x : Dt} (hx : x = hs R D ∨ x = hl R D) {Q : Vl → Vl → Prop} (q : Q (.b (decide (steps R D = [])), .c) (.n, .c)) : wFn fn_is_end [(x, .c)] Q := by
  have e : decide (((psrt (goTo R D R.length)).map pr).length = 0) = decide (steps R D = []) := by
    rw [List.length_map]
    exact decide_eq_decide.mpr (goTo_nil h)
  have e2 : ∀ n : Nat, decide ((n : Int) = 0) = decide (n = 0) := fun n => decide_eq_decide.mpr (by omega)
  rw [← e, ← e2] at q
  rcases hx with rfl | rfl
  · simp_arith [fn_is_end, m_is_end]
    refine may_go_ok f h hd ?_
    simp_arith [true_and]
    rw [List.length_map] at q
    exact q
  · simp_arith [fn_is_end, m_is_end]
    refine may_goL_ok f h hd ?_
    simp_arith [true_and]
    rw [List.length_map] at q
    exact q
theorem flatM (R : List (List Int)) : (R.flatMap fun r => r.map Dt.i) = R.flatten.map .i := by
  induction R with
  | nil => rfl
  | cons r R ih => simp only [List.flatMap_cons, List.flatten_cons, List.map_append, ih]
theorem is_sorted_ok {folk : List Int} {d : Nat} {R : List (List Int)} {D : List Int} (f : Fk folk) (h : Hou folk d R D) (hd : d ≤ 60) {x : Dt} (hx : x = hs R D ∨ x = hl R D) {Q : Vl → Vl → Prop} (q : Q (.b (decide (R.flatten = isrt R.flatten)), .c) (.n, .c)) : wFn fn_is_sorted [(x, .c)] Q := by
  have hfl := f.len
  have hlr := h.lr
  have hlen : R.flatten.length ≤ 60 := by rw [h.perm.length_eq]; exact hfl
  have lim : LIM = 1000000 := rfl
  rcases hx with rfl | rfl
  · simp_arith [fn_is_sorted, m_is_sorted, hs]
    simp_arith! [true_and]
    refine ⟨_, _, lc2_go (f := rm) (fun r => r.map Dt.i) R [] ?_ (fun r hr => ?_) ?_, ?_⟩
    · rw [flatM, List.length_map]; simp only [List.length_nil]; omega
    · have := h.rlen hr
      simp_arith [rm]
      refine ⟨_, lc_mI .i fun a ha => ?_, ?_⟩
      · simp_arith [true_and]
      · simp_arith [true_and]
        omega
    · rw [flatM, List.length_map]; simp only [List.length_nil]; omega
    · rw [flatM]
      simp_arith [true_and]
      rw [wO_srtL (show R.flatten.length ≤ 1000 by omega)]
      simp_arith [wO_eqLi]
      exact q
  · simp_arith [fn_is_sorted, m_is_sorted, hl]
    simp_arith! [true_and]
    refine ⟨_, _, lc2_go (f := lm) (fun r => r.map Dt.i) R [] ?_ (fun r hr => ?_) ?_, ?_⟩
    · rw [flatM, List.length_map]; simp only [List.length_nil]; omega
    · have := h.rlen hr
      simp_arith [lm]
      refine ⟨_, lc_mI .i fun a ha => ?_, ?_⟩
      · simp_arith [true_and]
      · simp_arith [true_and]
        omega
    · rw [flatM, List.length_map]; simp only [List.length_nil]; omega
    · rw [flatM]
      simp_arith [true_and]
      rw [wO_srtL (show R.flatten.length ≤ 1000 by omega)]
      simp_arith [wO_eqLi]
      exact q
theorem witnesses_ok {folk : List Int} {d : Nat} {R : List (List Int)} {D : List Int} (f : Fk folk) (h : Hou folk d R D) (hd : d ≤ 60) {k : Nat} (hk1 : k + 1 < d) {x : Dt} (hx : x = hs R D ∨ x = hl R D) {Q : Vl → Vl → Prop} (q1 : D.getD (k + 1) 0 < D.getD k 0 → Q (.l ((seenL (D.getD (k + 1) 0) (D.getD k 0) (R.getD (k + 1) [])).map .i), .t) (.n, .c)) (q2 : ¬ D.getD (k + 1) 0 < D.getD k 0 → Q (.n, .c) (.n, .c)) : wFn fn_witnesses [(x, .c), (.i ((k : Int) + 1), .c)] Q := by
  have hlr := h.lr
  have hld := h.ld
  have hk0 : k < D.length := by omega
  have ha : D[k]? = some (D.getD k 0) := by rw [List.getD_eq_getElem?_getD, List.getElem?_eq_getElem hk0]; rfl
  have hb : D[k + 1]? = some (D.getD (k + 1) 0) := by rw [List.getD_eq_getElem?_getD, List.getElem?_eq_getElem (by omega)]; rfl
  have hr : R[k + 1]? = some (R.getD (k + 1) []) := by rw [List.getD_eq_getElem?_getD, List.getElem?_eq_getElem (by omega)]; rfl
  have hrl := h.rlen (List.mem_of_getElem? hr)
  have := f.len
  generalize D.getD k 0 = a at ha q1 q2
  generalize D.getD (k + 1) 0 = b at hb q1 q2
  generalize R.getD (k + 1) [] = r at hr q1 hrl
  have fin : ∀ X : Dt, b < a → ∃ ys r2, lcL [4] (tgV 4) (mOr (mTe (mP fGe [.v 4, .v 2])) (mTe (mP fLe [.v 4, .v 3]))) (mV 4) false (r.map .i) [some (X, .c), some (.i ((k : Int) + 1), .c), some (.i a, .c), some (.i b, .c), none] [] = .ok ys r2 ∧ Q (.l ys, .t) (.n, .c) := by
    intro X hlt
    refine ⟨_, _, lc_fI (fun w => decide (w ≤ b ∨ a ≤ w)) .i fun w hw => ?_, q1 hlt⟩
    simp_arith [true_and]
    by_cases c1 : a ≤ w
    · simp [c1]
    · by_cases c2 : w ≤ b
      · simp [c1, c2]
      · simp [c1, c2]
  rcases hx with rfl | rfl
  · simp_arith [fn_witnesses, m_witnesses, hs]
    simp_arith! [true_and]
    refine wAt_i (by omega) (by omega) fun a' ha' => ?_
    rw [show ((k : Int) + 1 - 1).toNat = k by omega, ha] at ha'
    obtain rfl := Option.some.inj ha'
    simp_arith [true_and]
    refine wAt_i (by omega) (by omega) fun b' hb' => ?_
    rw [show ((k : Int) + 1).toNat = k + 1 by omega, hb] at hb'
    obtain rfl := Option.some.inj hb'
    simp_arith! [true_and]
    refine ⟨fun c => q2 (by omega), fun hlt => wAt_M (by omega) (by omega) fun r' hr' => ?_⟩
    rw [show ((k : Int) + 1).toNat = k + 1 by omega, hr] at hr'
    obtain rfl := Option.some.inj hr'
    simp_arith [rm]
    exact ⟨by omega, fin _ (by omega)⟩
  · simp_arith [fn_witnesses, m_witnesses, hl]
    simp_arith! [true_and]
    refine wAt_i (by omega) (by omega) fun a' ha' => ?_
    rw [show ((k : Int) + 1 - 1).toNat = k by omega, ha] at ha'
    obtain rfl := Option.some.inj ha'
    simp_arith [true_and]
    refine wAt_i (by omega) (by omega) fun b' hb' => ?_
    rw [show ((k : Int) + 1).toNat = k + 1 by omega, hb] at hb'
    obtain rfl := Option.some.inj hb'
    simp_arith! [true_and]
    refine ⟨fun c => q2 (by omega), fun hlt => wAt_M (by omega) (by omega) fun r' hr' => ?_⟩
    rw [show ((k : Int) + 1).toNat = k + 1 by omega, hr] at hr'
    obtain rfl := Option.some.inj hr'
    simp_arith [lm]
    exact ⟨by omega, fin _ (by omega)⟩
theorem unwell_ok {folk : List Int} {d : Nat} {R : List (List Int)} {D : List Int} (f : Fk folk) (h : Hou folk d R D) (hd : d ≤ 60) (h1 : 1 ≤ d) {x : Dt} (hx : x = hs R D ∨ x = hl R D) {Q : Vl → Vl → Prop} (q : Q (.l ((unwellL R D).map .i), .t) (.n, .c)) : wFn fn_unwell [(x, .c)] Q := by
  have hld := h.ld
  have er : rngD 1 ((D.length : Int) - 1).toNat = (List.range (D.length - 1)).map fun k : Nat => Dt.i ((k : Int) + 1) := by
    rw [rngD, show ((D.length : Int) - 1).toNat = D.length - 1 by omega]
    refine List.map_congr_left fun k _ => ?_
    rw [Int.add_comm]
  have fin : ∃ ys r2, lcL [1] (tgV 1) (mTe (mP fEq [.e (mC fn_witnesses [.v 0, .v 1]), .e (mP fLst [])])) (mV 1) false (rngD 1 ((D.length : Int) - 1).toNat) [some (x, .c), none] [] = .ok ys r2 ∧ Q (.l ys, .t) (.n, .c) := by
    rw [er]
    refine ⟨_, _, lc_fM (fun k : Nat => decide (D.getD (k + 1) 0 < D.getD k 0) && decide (seenL (D.getD (k + 1) 0) (D.getD k 0) (R.getD (k + 1) []) = [])) (fun k : Nat => .i ((k : Int) + 1)) fun k hk => ?_, ?_⟩
    · have hk := List.mem_range.mp hk
      simp_arith [true_and]
      refine witnesses_ok f h hd (show k + 1 < d by omega) hx (fun c => ?_) fun c => ?_
      · simp only [c, decide_true, Bool.true_and]
        simp_arith [wO_eqL0]
      · simp only [c, decide_false, Bool.false_and]
        simp_arith [true_and]
    · rw [unwellL, List.map_map] at q
      exact q
  have go : ∀ xs ys : List Dt, ys.length = D.length → x = .t [.t xs, .t ys] ∨ x = .l [.l xs, .l ys] → wFn fn_unwell [(x, .c)] Q := by
    rintro xs ys e (rfl | rfl)
    · simp_arith [fn_unwell, m_unwell]
      rw [e]
      exact ⟨by omega, by rw [rngD_len]; omega, fin⟩
    · simp_arith [fn_unwell, m_unwell]
      rw [e]
      exact ⟨by omega, by rw [rngD_len]; omega, fin⟩
  rcases hx with rfl | rfl
  · exact go (R.map rm) (D.map .i) (by simp) (.inl rfl)
  · exact go (R.map lm) (D.map .i) (by simp) (.inr rfl)
theorem is_well_ok {folk : List Int} {d : Nat} {R : List (List Int)} {D : List Int} (f : Fk folk) (h : Hou folk d R D) (hd : d ≤ 60) (h1 : 1 ≤ d) {x : Dt} (hx : x = hs R D ∨ x = hl R D) {Q : Vl → Vl → Prop} (q : Q (.b (decide (unwellL R D = [])), .c) (.n, .c)) : wFn fn_is_well [(x, .c)] Q := by
  simp_arith [fn_is_well, m_is_well]
  refine unwell_ok f h hd h1 hx ?_
  simp_arith [wO_eqL0]
  exact q
theorem small_nums {n d : Nat} (hn : n ≤ 4) (hd : d ≤ 2) : d * (n * (2 * 2 ^ ((n - 1) / 2) + 1)) ≤ 40 ∧ (d + 1) ^ n * (d + n) ^ d ≤ 900000 := by
  have h : n = 0 ∨ n = 1 ∨ n = 2 ∨ n = 3 ∨ n = 4 := by omega
  have h' : d = 0 ∨ d = 1 ∨ d = 2 := by omega
  rcases h with rfl | rfl | rfl | rfl | rfl <;> rcases h' with rfl | rfl | rfl <;> decide
theorem wO_neLz {ly : List HS} {Q : Dt → Md → Prop} (h : ∀ c ∈ ly, pl 4 (fH c) = true) (hl : ly.length ≤ 1000) : wO (fNe [.l (ly.map fH), .z (ly.map fH)]) Q = Q (.b false) .c := by
  show wO (fNe [.l (ly.map fH), .l (ly.map fH)]) Q = _
  have h0 : ∀ x ∈ ly.map fH, pl 4 x = true := fun x hx => by
    obtain ⟨c, hc, rfl⟩ := List.mem_map.mp hx
    exact h c hc
  have h1 : shp (.l (ly.map fH)) = true := shp_l (d := 4) h0 (by omega)
  rw [wO_neL, eqD_refl (pl_l (by rw [List.length_map]; exact hl) h0)]
  simp [h1]
theorem right_ok {n : Nat} {t : Dt} (ht : Tp (n + 500) t) {Q : Vl → Vl → Prop} (q : ∀ t', Tp n t' → Q (.b true, .c) (t', .t)) : wFn fn__law_right [(t, .t)] Q := by
  have lim : LIM = 1000000 := rfl
  simp_arith [fn__law_right, m__law_right]
  rw [wS_seq]
  simp_arith [true_and]
  refine house_ok (n := n + 100) (ht.less (by omega)) (most := 4) (doors := 2) (by omega) (by omega) (by omega) fun folk d R D t1 f hl h1 h2 h0 ht1 => ?_
  simp_arith [ht1.zfl]
  refine draw_ok (n := n + 99) ht1 (by omega) (by omega) fun s t2 s0 s1 ht2 => ?_
  simp_arith [ht2.zfl]
  refine wS_mid (fun r => ∃ D1, Hou folk d R D1 ∧ r = [some (t2, .t), some (hs R D1, .c), some (.i s, .c), none, none, none, none, none]) ?_ ?_
  · simp_arith [true_and]
    refine ⟨fun _ => ⟨D, h0, rfl⟩, fun _ => ?_⟩
    unfold hs
    simp_arith [true_and]
    refine ⟨by have := h0.ld; refine ⟨by simp, by omega, by omega⟩, List.replicate d 0, ⟨h0.lr, by simp, h0.perm, h0.srt, ?_⟩, ?_⟩
    · intro m hm
      rw [(List.mem_replicate.mp hm).2]
      decide
    · rw [rep_i, h0.ld]
      simp
  clear h0 D
  rintro _ ⟨D, h0, rfl⟩
  obtain ⟨b1, b2⟩ := small_nums hl h2
  have u : Upto folk d 40 := upto_of f b1
  have few : ∀ l : List HS, l.Nodup → (∀ c ∈ l, ∃ e, Dst nxH e (R, D) c) → l.length ≤ 900000 := fun l nd h => Nat.le_trans (few_H f h0 l nd h) b2
  have hd : d ≤ 60 := by omega
  rw [wS_seq]
  simp_arith [true_and]
  refine lot_ok (N := 40) (a := (R, D)) f h0 hd (by omega) u few fun os nd hao rch clo hol => ?_
  simp_arith [true_and]
  refine is_well_ok f h0 hd h1 (.inl rfl) ?_
  simp_arith [true_and]
  have hos : ∀ c ∈ os, Hou folk d c.1 c.2 := fun c hc => by
    obtain ⟨n, hn⟩ := rch c hc
    exact pth_hou f h0 hn
  have unw : ∀ c ∈ os, ∀ z ∈ unwellL c.1 c.2, z ∈ unwellL R D := fun c hc => by
    obtain ⟨n, hn⟩ := rch c hc
    obtain ⟨ps, _, hr⟩ := pth_runH f h0 hn
    exact hr.unw f h0
  have plc : ∀ c ∈ os, pl 4 (fH c) = true := fun c hc => (hos c hc).pl f hd (n := 0)
  rw [wS_seq]
  simp_arith [true_and]
  refine ends_all_ok (N := 40) f hd (by omega) u hos clo nd hol ?_
  simp_arith [true_and]
  refine lawunwell_ok f h0 hd h1 ?_
  simp_arith [wO_eqL0]
  rw [wS_seq]
  refine wS_for' ?_
  simp_arith [true_and]
  rw [wO_sortKN]
  obtain ⟨os', hperm, es⟩ := sort_map (g := fH) os
  refine ⟨okSort_map (d := 4) alike_fH (fun c => ⟨_, _, rfl⟩) plc (by omega) (by omega), ?_⟩
  rw [es]
  have lo' : os'.length = os.length := hperm.length_eq
  simp_arith [flatL_H]
  refine ⟨fun k r => ∃ o5 o6, r = [some (t2, .t), some (hs R D, .c), some (.i s, .c), some (.k (os.map fH) (os.map zv), .a), some (.b (decide (unwellL R D = [])), .c), o5, o6, none], ⟨none, none, rfl⟩, ?_, ?_⟩
  · rintro k x _ hx ⟨o5, o6, rfl⟩
    obtain ⟨y, hy, rfl⟩ := enumD_mem hx
    obtain ⟨c, hc, rfl⟩ : ∃ c, c ∈ os ∧ y = fH c := by
      obtain ⟨c, h1, h2⟩ := List.mem_map.mp (List.mem_of_getElem? hy)
      exact ⟨c, hperm.mem_iff.mp h1, h2.symm⟩
    have hH := hos c hc
    have nil_iff : nxH c = [] ↔ steps c.1 c.2 = [] := by unfold nxH; rw [List.map_eq_nil_iff]
    have isE : (nxH c).isEmpty = decide (steps c.1 c.2 = []) := by
      by_cases e : steps c.1 c.2 = []
      · rw [decide_eq_true e, nil_iff.mpr e]; rfl
      · rw [decide_eq_false e]
        cases h : nxH c with
        | nil => exact absurd (nil_iff.mp h) e
        | cons _ _ => rfl
    have plz : ∀ z ∈ nxH c, pl 4 (fH z) = true := fun z hz => plc z (clo c hc z hz)
    simp_arith [true_and]
    refine wS_mid (fun r => r = [some (t2, .t), some (hs R D, .c), some (.i s, .c), some (.k (os.map fH) (os.map zv), .a), some (.b (decide (unwellL R D = [])), .c), some (.i k, .c), some (fH c, .c), none]) ?_ ?_
    · simp_arith [true_and]
      refine ⟨fun hu => ?_, fun hu => ?_⟩
      · refine unwell_ok f hH hd h1 (.inl rfl) ?_
        have e0 : unwellL c.1 c.2 = [] := List.eq_nil_iff_forall_not_mem.mpr fun z hz => by have := unw c hc z hz; rw [hu] at this; cases this
        simp_arith [true_and]
        rw [wO_neL0, decide_eq_true e0]
        simp_arith [true_and]
        refine is_end_ok f hH hd (.inl rfl) ?_
        simp_arith [true_and]
        refine ⟨key_fH.ok c, zv c, look_map hc, ?_⟩
        rw [wZ_zv]
        unfold zv
        rw [wO_eqZy plz, isE]
        simp_arith [decide_true]
      · refine is_end_ok f hH hd (.inl rfl) ?_
        simp_arith [true_and]
        refine ⟨key_fH.ok c, zv c, look_map hc, ?_⟩
        rw [wZ_zv]
        unfold zv
        rw [wO_eqZy plz, isE]
        simp_arith [decide_true]
    rintro _ rfl
    refine wS_mid (fun r => r = [some (t2, .t), some (hs R D, .c), some (.i s, .c), some (.k (os.map fH) (os.map zv), .a), some (.b (decide (unwellL R D = [])), .c), some (.i k, .c), some (fH c, .c), none]) ?_ ?_
    · simp_arith [true_and]
      refine ⟨key_fH.ok c, zv c, look_map hc, ?_⟩
      rw [wZ_zv]
      unfold zv
      rw [wO_eqZy plz, isE]
      simp_arith [true_and]
      intro he
      refine is_sorted_ok f hH hd (.inl rfl) ?_
      simp_arith [true_and]
      intro hns
      have nu : ¬ unwellL c.1 c.2 = [] := fun hu => hns ((end_up hH he hu).sorted hH)
      have nu0 : ¬ unwellL R D = [] := fun hu => nu (List.eq_nil_iff_forall_not_mem.mpr fun z hz => by have := unw c hc z hz; rw [hu] at this; cases this)
      refine ⟨fun z => absurd z nu0, fun _ => ?_⟩
      refine is_well_ok f hH hd h1 (.inl rfl) ?_
      simp_arith [true_and]
      exact fun z => absurd z nu
    rintro _ rfl
    simp_arith [true_and]
    have sl := steps_two f hH
    refine ⟨fun _ => ?_, fun _ => ⟨_, _, rfl⟩⟩
    rw [wS_seq]
    simp_arith [true_and]
    refine may_go_ok f hH hd ?_
    rw [go_stepsU f hH]
    simp_arith [true_and]
    refine steps_ok f hH hd ?_
    simp_arith [true_and]
    refine same_ok 8 _ (pl_l (d := 7) (by rw [List.length_map]; omega) fun y hy => by
      obtain ⟨p, _, rfl⟩ := List.mem_map.mp hy
      simp [pr, pl, LIM]) ?_
    simp_arith [true_and]
    refine may_go_ok f hH hd ?_
    rw [go_stepsU f hH]
    simp_arith [true_and]
    refine ⟨by omega, _, _, lc_mM (fun p => fH (bhS c p)) fun p hp => ?_, ?_⟩
    · obtain ⟨kk, hkk, ep, hlet⟩ := steps_let f hH hp
      simp_arith [true_and]
      rw [ep]
      refine gone_ok f hH hd hkk hlet ?_
      rw [show hs (behR c.1 p.1 kk) (c.2.set kk p.1) = fH (bhS c p) by rw [ep, bhS_k]; rfl, ← ep]
      simp_arith [true_and]
    · simp_arith [true_and]
      refine ⟨key_fH.ok c, zv c, look_map hc, ?_⟩
      have em : (steps c.1 c.2).map (fun p => fH (bhS c p)) = (nxH c).map fH := by unfold nxH; rw [List.map_map]; rfl
      rw [wZ_zv, em]
      unfold zv
      rw [wO_neLz plz (by unfold nxH; rw [List.length_map]; omega)]
      simp_arith [true_and]
      exact ⟨_, _, rfl⟩
  · rintro _ ⟨o5, o6, rfl⟩
    simp_arith [true_and]
    exact q _ (ht2.less (by omega))
theorem tape_ok {cs : List Int} {k : Int} (h0 : 0 ≤ k) (hk : k ≤ 1000) {Q : Vl → Vl → Prop} (q : ∀ t, Tp (2 ^ 29) t → Q (t, .t) (.n, .c)) : wFn fn__law_tape [(.l (cs.map .i), .c), (.i k, .c)] Q := by
  simp_arith [↓wS_seq, wS_seq, fn__law_tape, m__law_tape]
  refine ⟨fun h => ?_, fun h => ?_⟩
  · refine wAt_i h0 h fun c _ => ?_
    simp_arith [↓wS_seq, wS_seq]
    refine q _ ⟨_, _, _, rfl, by omega, by omega, by omega, by omega⟩
  · refine q _ ⟨_, _, _, rfl, by omega, by omega, by omega, by omega⟩
theorem law_true (ns : List Int) (h : ns.length ≤ 63) (hb : ∀ z ∈ ns, Builtin.Int.intBits z ≤ 1048576) : ∃ m z, fn_law [(.z (ns.map .i), .c)] = .rt (.b true, m) z := by
  have go : wFn fn_law [(.z (ns.map .i), .c)] fun x _ => x.1 = .b true := by
    simp_arith [fn_law, m_law]
    simp_arith! [true_and]
    refine cells_ok (u := 2) h (by omega) (by omega) fun cs hc0 hc => ?_
    simp_arith [true_and]
    rw [wS_seq]
    refine wS_for' ?_
    simp_arith [true_and]
    refine ⟨by omega, fun _ r => ∃ o2 o3, r = [some (.z (ns.map .i), .c), some (.l (cs.map .i), .t), o2, o3, none], ⟨none, none, rfl⟩, ?_⟩
    · rintro i x _ hx ⟨o2, o3, rfl⟩
      obtain ⟨rfl, hi⟩ := rngD_at hx
      simp_arith [true_and]
      simp_arith! [true_and]
      refine tape_ok (by omega) (by omega) fun t ht => ?_
      simp_arith [wM_f ht.zfl]
      refine ⟨by rw [rngD_len]; omega, ?_⟩
      refine lc_inv (P := fun k r acc => ∃ t, r = [some (.z (ns.map .i), .c), some (.l (cs.map .i), .t), some (.i (0 + (i : Int)), .c), some (t, .t), none] ∧ acc = List.replicate k (.b true) ∧ Tp (500 * (10 - k)) t) ⟨t, rfl, rfl, ht.less (by omega)⟩ ?_ ?_
      · rintro k x _ _ hx ⟨t, rfl, rfl, ht⟩
        obtain ⟨rfl, hk⟩ := rngD_at hx
        have hk : k < 1 := hk
        simp_arith [true_and]
        refine right_ok (n := 500 * (10 - (k + 1))) (ht.less (by omega)) fun t' ht' => ?_
        simp_arith [ht'.zfl]
        exact ⟨t', rfl, by rw [← List.replicate_succ, List.replicate_succ'], ht'⟩
      · rintro ys _ ⟨t, rfl, rfl, ht⟩
        rw [rngD_len]
        simp_arith [true_and]
        rw [show [Dt.b true] = [true].map Dt.b from rfl]
        simp_arith [List.all_cons, List.all_nil, id]
        exact ⟨some (.i (0 + (i : Int)), .c), some (t, .t), rfl⟩
  obtain ⟨x, z, e, hx⟩ := wFn_ex go
  obtain ⟨x, m⟩ := x
  simp only at hx
  subst hx
  exact ⟨m, z, e⟩
end YL
open PySem PySem.W PyProof.Rows in
set_option maxRecDepth 100000 in
set_option maxHeartbeats 0 in
theorem PySem.Challenge.cw_sortdoors_k13_whole_all_rows_of_small_ho_holds : PySem.Challenge.rw_sortdoors_k13_whole_all_rows_of_small_ho.Holds := by
  w_on; o_law; k_head; (case hw => w_witness2)
  k_fill
  refine YL.walk (l := PySem.Challenge.rw_sortdoors_k13_whole_all_rows_of_small_ho) rfl rfl (fun w h Y => PySem.W.kIn_of Y) YL.law_true ?F
  case F =>
    intro w mg fa h KX G hmg
    refine' YL.all_mk KX G hmg ?a0 ?l0 ?c0 ?k0 ?a1 ?l1 ?c1 ?k1 ?a2 ?l2 ?c2 ?k2 ?a3 ?l3 ?c3 ?k3 ?a4 ?l4 ?c4 ?k4 ?a5 ?l5 ?c5 ?k5 ?a6 ?l6 ?c6 ?k6 ?a7 ?l7 ?c7 ?k7 ?a8 ?l8 ?c8 ?k8 ?a9 ?l9 ?c9 ?k9 ?a10 ?l10 ?c10 ?k10 ?a11 ?l11 ?c11 ?k11 ?a12 ?l12 ?c12 ?k12 ?a13 ?l13 ?c13 ?k13 ?a14 ?l14 ?c14 ?k14 ?a15 ?l15 ?c15 ?k15 ?a16 ?l16 ?c16 ?k16 ?a17 ?l17 ?c17 ?k17 ?a18 ?l18 ?c18 ?k18 ?a19 ?l19 ?c19 ?k19 ?a20 ?l20 ?c20 ?k20 ?a21 ?l21 ?c21 ?k21 ?a22 ?l22 ?c22 ?k22 ?a23 ?l23 ?c23 ?k23 ?a24 ?l24 ?c24 ?k24 ?a25 ?l25 ?c25 ?k25 ?a26 ?l26 ?c26 ?k26 ?a27 ?l27 ?c27 ?k27 ?a28 ?l28 ?c28 ?k28 ?a29 ?l29 ?c29 ?k29 ?z_abs ?z_all ?z_bool ?z_dict ?z_enumerate ?z_int ?z_isinstance ?z_len ?z_list ?z_max ?z_min ?z_range ?z_sorted ?z_str ?z_tuple ?z_zip ?g_BACK ?g_FORTH ?nl_0 ?nl_1
    (case a0 => k_is)
    (case l0 => k_is)
    (case c0 => k_is)
    (case k0 => k_is)
    (case a1 => k_is)
    (case l1 => k_is)
    (case c1 => k_is)
    (case k1 => k_is)
    (case a2 => k_is)
    (case l2 => k_is)
    (case c2 => k_is)
    (case k2 => k_is)
    (case a3 => k_is)
    (case l3 => k_is)
    (case c3 => k_is)
    (case k3 => k_is)
    (case a4 => k_is)
    (case l4 => k_is)
    (case c4 => k_is)
    (case k4 => k_is)
    (case a5 => k_is)
    (case l5 => k_is)
    (case c5 => k_is)
    (case k5 => k_is)
    (case a6 => k_is)
    (case l6 => k_is)
    (case c6 => k_is)
    (case k6 => k_is)
    (case a7 => k_is)
    (case l7 => k_is)
    (case c7 => k_is)
    (case k7 => k_is)
    (case a8 => k_is)
    (case l8 => k_is)
    (case c8 => k_is)
    (case k8 => k_is)
    (case a9 => k_is)
    (case l9 => k_is)
    (case c9 => k_is)
    (case k9 => k_is)
    (case a10 => k_is)
    (case l10 => k_is)
    (case c10 => k_is)
    (case k10 => k_is)
    (case a11 => k_is)
    (case l11 => k_is)
    (case c11 => k_is)
    (case k11 => k_is)
    (case a12 => k_is)
    (case l12 => k_is)
    (case c12 => k_is)
    (case k12 => k_is)
    (case a13 => k_is)
    (case l13 => k_is)
    (case c13 => k_is)
    (case k13 => k_is)
    (case a14 => k_is)
    (case l14 => k_is)
    (case c14 => k_is)
    (case k14 => k_is)
    (case a15 => k_is)
    (case l15 => k_is)
    (case c15 => k_is)
    (case k15 => k_is)
    (case a16 => k_is)
    (case l16 => k_is)
    (case c16 => k_is)
    (case k16 => k_is)
    (case a17 => k_is)
    (case l17 => k_is)
    (case c17 => k_is)
    (case k17 => k_is)
    (case a18 => k_is)
    (case l18 => k_is)
    (case c18 => k_is)
    (case k18 => k_is)
    (case a19 => k_is)
    (case l19 => k_is)
    (case c19 => k_is)
    (case k19 => k_is)
    (case a20 => k_is)
    (case l20 => k_is)
    (case c20 => k_is)
    (case k20 => k_is)
    (case a21 => k_is)
    (case l21 => k_is)
    (case c21 => k_is)
    (case k21 => k_is)
    (case a22 => k_is)
    (case l22 => k_is)
    (case c22 => k_is)
    (case k22 => k_is)
    (case a23 => k_is)
    (case l23 => k_is)
    (case c23 => k_is)
    (case k23 => k_is)
    (case a24 => k_is)
    (case l24 => k_is)
    (case c24 => k_is)
    (case k24 => k_is)
    (case a25 => k_is)
    (case l25 => k_is)
    (case c25 => k_is)
    (case k25 => k_is)
    (case a26 => k_is)
    (case l26 => k_is)
    (case c26 => k_is)
    (case k26 => k_is)
    (case a27 => k_is)
    (case l27 => k_is)
    (case c27 => k_is)
    (case k27 => k_is)
    (case a28 => k_is)
    (case l28 => k_is)
    (case c28 => k_is)
    (case k28 => k_is)
    (case a29 => k_is)
    (case l29 => k_is)
    (case c29 => k_is)
    (case k29 => k_is)
    (case z_abs => k_is)
    (case z_all => k_is)
    (case z_bool => k_is)
    (case z_dict => k_is)
    (case z_enumerate => k_is)
    (case z_int => k_is)
    (case z_isinstance => k_is)
    (case z_len => k_is)
    (case z_list => k_is)
    (case z_max => k_is)
    (case z_min => k_is)
    (case z_range => k_is)
    (case z_sorted => k_is)
    (case z_str => k_is)
    (case z_tuple => k_is)
    (case z_zip => k_is)
    (case g_BACK => k_is)
    (case g_FORTH => k_is)
    (case nl_0 => k_is)
    (case nl_1 => k_is)
