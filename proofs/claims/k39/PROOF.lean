import PyProof.Rows.All
import Wide.All
import OpenK.AllK
import Wide.FinOn
import HandS.ForMost
import HandS.ForExc
import HandS.Walk
import HandS.Lambda
import KE.KDictKeyed
import HandS.EndBits
import HandS.NoneIn
import HandS.Wide
import HandS.Style
import HandS.TupAny
import HandS.TupMul
import HandS.Deep
import HandS.IsInst
import KE.SortData
import KE.DataMinMax
import HandS.Rev
import HandS.Zip
import KE.GoesEnum
import HandS.RaiseMore
import HandS.WideMore
import HandS.WideBits
import HandS.Conv
import HandS.ExcInit
import KE.KExcIs
import KE.KTryMore
import KE.RegKIsAll
import KE.RegKTryMore
import HandS.More
import HandS.Flow
import HandS.Strs
import PyProof.Rows.SetFrom
import KE.KDictZip
import HandS.Set
import HandS.SetFor
import HandS.DictComp
import HandS.Sort
import HandS.Defaults
import HandS.Small
import HandS.SortKw
import PyProof.FactsAll.bool_2
import KE.KDictDisplayH
import KE.KDictItemsList
import KE.DataCmp
import PySem.Challenge.RW_sortdoors_k39_great_ones_by_their_number
set_option Elab.async false
set_option linter.all false
set_option maxRecDepth 100000
set_option maxHeartbeats 4000000
namespace Y
open PySem L2
/-- data: None, truth, number, text, tuple, list, dict (keys, values), an object of a class (fields by name) -/
inductive Dt where
  | n | b (x : Bool) | i (x : Int) | s (x : Str) | t (xs : List Dt) | l (xs : List Dt)
  | m (ks vs : List Dt) | o (c : Str) (ns : List Str) (fs : List Dt)
  /-- a list that nobody may change (the script) -/
  | z (xs : List Dt)
  /-- an exception that was caught -/
  | x (c : Str) (ns : List Str) (fs : List Dt)
  /-- a def of the program, by its name -/
  | f (x : Str)
  /-- a dict whose keys are tuples of numbers and of such tuples -/
  | k (ks vs : List Dt)
/-- who else may hold the lists within: c anybody, t nobody the list itself, a nobody any -/
inductive Md where
  | c | t | a
  deriving DecidableEq
abbrev Vl := Dt × Md
abbrev Ev := List (Option Vl)
inductive Ou (α : Type) where
  | ok (x : α) (r : Ev) | ex (c : Str) (fs : List (Str × Dt)) (r : Ev) | no
mutual
def Dt.flat : Dt → Bool
  | .t xs => flatL xs
  | .z xs => flatL xs
  | .l _ => false
  | .m _ _ => false
  | .o _ _ _ => false
  | .x _ _ _ => false
  | .k _ _ => false
  | _ => true
def flatL : List Dt → Bool
  | [] => true
  | x :: xs => x.flat && flatL xs
end
/-- a list that nobody may change -/
def SqF (K : PySem.W.Frag) (H : Hp) (a : Addr) (vs : List V) : Prop := (∃ o, H a = some (.frz o (.lst vs))) ∨
  ∃ (o : Obj) (its : Array Value) (n : Nat), K.lookup a = some o ∧ o.cls = .type "list" ∧ o.dict = none ∧ o.data = .seq its n ∧ its.size ≤ sizeLine ∧ Vals vs its.toList
theorem SqF.sq {K : PySem.W.Frag} {H : Hp} {a : Addr} {vs : List V} (h : SqF K H a vs) : SqL K H a vs := h.elim (fun ⟨o, z⟩ => .inl (.inr ⟨o, z⟩)) .inr
/-- a key as data -/
def keyD : Key → Dt
  | .inl i => .i i
  | .inr x => .s x
mutual
/-- a tuple of numbers and of such tuples, as a key -/
def keyN : Dt → NestedKey
  | .i x => .num x
  | .t xs => .tup (keyNs xs)
  | _ => .none
def keyNs : List Dt → List NestedKey
  | [] => []
  | x :: xs => keyN x :: keyNs xs
end
mutual
def kyD : Dt → Bool
  | .i _ => true
  | .t xs => kyL xs
  | _ => false
def kyL : List Dt → Bool
  | [] => true
  | x :: xs => kyD x && kyL xs
end
/-- fit to be a key -/
def kyT : Dt → Bool
  | .t xs => kyL xs && decide (NestedKey.depthAll (keyNs xs) ≤ 7)
  | _ => false
mutual
/-- the hash of a key without texts -/
def hsN : NestedKey → Int
  | .none => reduceHash 0xFCA86420
  | .num i => hashInt i
  | .text _ => 0
  | .tup ks => reduceHash (Builtin.Tuple.tupleHashOf (hsNs ks))
def hsNs : List NestedKey → List Int
  | [] => []
  | k :: ks => hsN k :: hsNs ks
end
/-- a dict whose keys are tuples: the keys, where their tuples stand, the values -/
def ktP (a : Addr) (es : List (NestedKey × Addr × V)) : Heap → Prop := fun h => (a == sysModules) = false ∧ es.length ≤ sizeLine ∧ (es.map (·.1)).Nodup ∧
  ∃ (o : Obj) (ents : Array DictEntry) (ep : Nat) (xs : List (NestedKey × Addr × Value)), h.get? a = some o ∧ o.ExactDict ∧ o.data = .dict ents ep ∧ ents.toList = xs.map (fun x => (⟨hsN x.1, .ref x.2.1, x.2.2⟩ : DictEntry)) ∧
    Paired (fun (p : NestedKey × Addr × V) (q : NestedKey × Addr × Value) => p.1 = q.1 ∧ p.2.1 = q.2.1 ∧ RelV p.2.2 q.2.2) es xs
def ktO (a : Addr) (es : List (NestedKey × Addr × V)) : HO := .ext (ktP a es)
/-- what may be changed: lists, dicts, objects -/
def hotO : HO → Prop
  | .lst _ => True
  | .dK _ => True
  | .ins _ _ _ => True
  | .ext φ => ∃ a es, φ = ktP a es
  | _ => False
theorem kt_hot {a : Addr} {es : List (NestedKey × Addr × V)} : hotO (ktO a es) := ⟨a, es, rfl⟩
theorem not_kt {φ : Heap → Prop} {ob : Obj} {n : Nat} (hd : ∀ x y, ob.data ≠ .dict x y) (hφ : φ { objs := Array.replicate n ob }) : ¬ hotO (.ext φ) := fun ⟨a, es, e⟩ => by
  subst e
  obtain ⟨_, _, _, o, ents, ep, xs, h, _, hd', _⟩ := hφ
  have e2 := ((Heap.get?_eq_some _ a o).mp h).1
  rw [Array.getElem?_replicate] at e2
  split at e2
  · cases e2
    exact hd _ _ hd'
  · cases e2
theorem codeO_nh {c : Addr} {q : Str} : ¬ hotO (LamX.CodeO c q) := not_kt (n := c + 1) (ob := { cls := .none, data := .fields #[.none, .str q 0] }) (fun _ _ z => by cases z) ⟨_, _, 0, by unfold Heap.get?; rw [Array.getElem?_replicate, if_pos (Nat.lt_succ_self _)], rfl, rfl⟩
/-- an exception behind its suite: its class, its dict -/
def exk (a C : Addr) (d : Option Addr) : HO := .ext fun h => ∃ (oe : Obj) (ws : Array Value), h.get? a = some oe ∧ oe.cls = .ref C ∧ oe.dict = d ∧ oe.data = .fields ws
theorem exk_nh {a C : Addr} {d : Option Addr} : ¬ hotO (exk a C d) := not_kt (n := a + 1) (ob := { cls := .ref C, dict := d, data := .fields #[] }) (fun _ _ z => by cases z) ⟨_, #[], by unfold Heap.get?; rw [Array.getElem?_replicate, if_pos (Nat.lt_succ_self _)], rfl, rfl, rfl⟩
mutual
inductive Co (K : PySem.W.Frag) (M : Addr → Prop) (H : Hp) : V → Dt → Prop
  | n : Co K M H .non .n
  | b (x : Bool) : Co K M H (.bl x) (.b x)
  | i (x : Int) : Co K M H (.int x) (.i x)
  | s (x : Str) : Co K M H (.str x) (.s x)
  | t {a : Addr} {vs : List V} {xs : List Dt} : SqT K H a vs → CoL K M H vs xs → Co K M H (.ref a) (.t xs)
  | l {a : Addr} {vs : List V} {xs : List Dt} : H a = some (.lst vs) → ¬ M a → CoL K M H vs xs → Co K M H (.ref a) (.l xs)
  | z {a : Addr} {vs : List V} {xs : List Dt} : SqF K H a vs → CoL K M H vs xs → Co K M H (.ref a) (.z xs)
  /-- a dict that nobody changes -/
  | m {a : Addr} {kvs : List (Key × V)} {xs : List Dt} : Rd H a (.dK kvs) → ¬ M a → CoL K M H (kvs.map (·.2)) xs → Co K M H (.ref a) (.m (kvs.map fun p => keyD p.1) xs)
  /-- an object of a class of the program that nobody changes -/
  | o {a C dx : Addr} {c : Str} {fvs : List (Str × V)} {fs : List Dt} : H a = some (.ins C dx fvs) → ¬ M a → PySem.W.nsIn K mainGlobals c = some (some (.ref C)) → CoL K M H (fvs.map (·.2)) fs → Co K M H (.ref a) (.o c (fvs.map (·.1)) fs)
  | f {g : Addr} {x : Str} : PySem.W.nsIn K mainGlobals x = some (some (.ref g)) → Co K M H (.ref g) (.f x)
  | k {a : Addr} {es : List (NestedKey × Addr × V)} {ks vs : List Dt} : Rd H a (ktO a es) → ¬ M a → CoL K M H (es.map fun e => .ref e.2.1) ks → ks.all kyT = true → es.map (·.1) = keyNs ks → CoL K M H (es.map (·.2.2)) vs → Co K M H (.ref a) (.k ks vs)
  | x0 {a C : Addr} {c : Str} : H a = some (exk a C none) → PySem.W.nsIn K mainGlobals c = some (some (.ref C)) → Co K M H (.ref a) (.x c [] [])
  | x1 {a C dx : Addr} {c f : Str} {v : V} {y : Dt} : H a = some (exk a C (some dx)) → PySem.W.nsIn K mainGlobals c = some (some (.ref C)) → H dx = some (.xd [(f, v)]) → Co K M H v y → Co K M H (.ref a) (.x c [f] [y])
inductive CoL (K : PySem.W.Frag) (M : Addr → Prop) (H : Hp) : List V → List Dt → Prop
  | nil : CoL K M H [] []
  | cons {v : V} {vs : List V} {x : Dt} {xs : List Dt} : Co K M H v x → CoL K M H vs xs → CoL K M H (v :: vs) (x :: xs)
end
mutual
inductive Ho (K : PySem.W.Frag) (H : Hp) : V → Dt → List Addr → Prop
  | n : Ho K H .non .n []
  | b (x : Bool) : Ho K H (.bl x) (.b x) []
  | i (x : Int) : Ho K H (.int x) (.i x) []
  | s (x : Str) : Ho K H (.str x) (.s x) []
  | f {g : Addr} {x : Str} : PySem.W.nsIn K mainGlobals x = some (some (.ref g)) → Ho K H (.ref g) (.f x) []
  | t {a : Addr} {vs : List V} {xs : List Dt} {F : List Addr} : SqT K H a vs → HoL K H vs xs F → Ho K H (.ref a) (.t xs) F
  | l {a : Addr} {vs : List V} {xs : List Dt} {F : List Addr} : H a = some (.lst vs) → HoL K H vs xs F → Ho K H (.ref a) (.l xs) (a :: F)
  | z {a : Addr} {vs : List V} {xs : List Dt} {F : List Addr} : SqF K H a vs → HoL K H vs xs F → Ho K H (.ref a) (.z xs) F
  | m {a : Addr} {kvs : List (Key × V)} {xs : List Dt} {F : List Addr} : H a = some (.dK kvs) → HoL K H (kvs.map (·.2)) xs F → Ho K H (.ref a) (.m (kvs.map fun p => keyD p.1) xs) (a :: F)
  | o {a C dx : Addr} {c : Str} {fvs : List (Str × V)} {fs : List Dt} {F : List Addr} : H a = some (.ins C dx fvs) → PySem.W.nsIn K mainGlobals c = some (some (.ref C)) → HoL K H (fvs.map (·.2)) fs F → Ho K H (.ref a) (.o c (fvs.map (·.1)) fs) (a :: F)
  | k {a : Addr} {es : List (NestedKey × Addr × V)} {ks vs : List Dt} {F : List Addr} : H a = some (ktO a es) → HoL K H (es.map fun e => .ref e.2.1) ks [] → ks.all kyT = true → es.map (·.1) = keyNs ks → HoL K H (es.map (·.2.2)) vs F → Ho K H (.ref a) (.k ks vs) (a :: F)
inductive HoL (K : PySem.W.Frag) (H : Hp) : List V → List Dt → List Addr → Prop
  | nil : HoL K H [] [] []
  | cons {v : V} {vs : List V} {x : Dt} {xs : List Dt} {F F' : List Addr} : Ho K H v x F → HoL K H vs xs F' → HoL K H (v :: vs) (x :: xs) (F ++ F')
end
def Rp (K : PySem.W.Frag) (M : Addr → Prop) (H : Hp) : Md → V → Dt → List Addr → Prop
  | .c, v, x, F => Co K M H v x ∧ F = []
  | .t, v, x, F => ∃ a vs xs, v = .ref a ∧ x = .l xs ∧ F = [a] ∧ H a = some (.lst vs) ∧ CoL K M H vs xs
  | .a, v, x, F => Ho K H v x F
/-- no table of code objects -/
def notT (o : HO) : Prop := ∀ ps, o ≠ .tbl ps
theorem hot_nt {o : HO} (h : hotO o) : notT o := fun ps z => by rw [z] at h; exact h
/-- what may be changed is a list -/
def Hotty (M : Addr → Prop) (H : Hp) : Prop := ∀ b, M b → ∃ o, H b = some o ∧ hotO o
/-- the cold stays -/
structure Fm (M : Addr → Prop) (H : Hp) (M' : Addr → Prop) (H' : Hp) : Prop where
  keep' : ∀ b o, H b = some o → ¬ M b → ∀ {nt : notT o}, H' b = some o
  grow : ∀ b, M' b → M b ∨ H b = none
  hot : Hotty M H
section
variable {K : PySem.W.Frag} {M M' : Addr → Prop} {H H' : Hp}
theorem Fm.keep (f : Fm M H M' H') (b : Addr) (o : HO) (h : H b = some o) (hn : ¬ M b) (nt : notT o := by first | assumption | exact hot_nt (by assumption) | (intro _ z; cases z)) : H' b = some o := f.keep' b o h hn (nt := nt)
theorem Fm.rd (f : Fm M H M' H') {a : Addr} {u : HO} (h : Rd H a u) (hn : ¬ M a) (nt : notT u := by first | assumption | exact hot_nt (by assumption) | (intro _ z; cases z)) : Rd H' a u := by
  rcases h with h | ⟨o, h⟩
  · exact .inl (f.keep a _ h hn)
  · exact .inr ⟨o, f.keep a _ h hn⟩
theorem Hotty.nls (f : Hotty M H) {a : Addr} {u : HO} (h : Rd H a u) (hu : ¬ hotO u) : ¬ M a := fun z => by
  obtain ⟨o, e, ho⟩ := f a z
  rcases h with h | ⟨o', h⟩
  · rw [h] at e; cases e; exact hu ho
  · rw [h] at e; cases e; exact ho
theorem Hotty.nrd (f : Hotty M H) {a : Addr} {vs : List V} (h : Rd H a (.tup vs)) : ¬ M a := f.nls h fun z => z
theorem Hotty.nfz (f : Hotty M H) {a : Addr} {o : Obj} {u : HO} (h : H a = some (.frz o u)) : ¬ M a := f.nls (.inl h) fun z => z
theorem Fm.sqT (f : Fm M H M' H') {a : Addr} {vs : List V} (h : SqT K H a vs) : SqT K H' a vs := by
  rcases h with h | h
  · exact .inl (f.rd h (f.hot.nrd h))
  · exact .inr h
theorem Fm.nm (f : Fm M H M' H') {a : Addr} {u : HO} (h : Rd H a u) (hn : ¬ M a) : ¬ M' a := fun z => by
  rcases f.grow a z with q | q
  · exact hn q
  · rcases h with h | ⟨o, h⟩ <;> (rw [h] at q; cases q)
theorem Fm.sqF (f : Fm M H M' H') {a : Addr} {vs : List V} (h : SqF K H a vs) : SqF K H' a vs := by
  rcases h with ⟨o, h⟩ | h
  · exact .inl ⟨o, f.keep _ _ h (f.hot.nfz h)⟩
  · exact .inr h
mutual
theorem Co.fm (f : Fm M H M' H') : ∀ {v : V} {x : Dt}, Co K M H v x → Co K M' H' v x
  | _, _, .n => .n
  | _, _, .f h => .f h
  | _, _, .b x => .b x
  | _, _, .i x => .i x
  | _, _, .s x => .s x
  | _, _, .t h q => .t (f.sqT h) (CoL.fm f q)
  | _, _, .l h hn q => .l (f.keep _ _ h hn) (f.nm (.inl h) hn) (CoL.fm f q)
  | _, _, .z h q => .z (f.sqF h) (CoL.fm f q)
  | _, _, .m h hn q => .m (f.rd h hn) (f.nm h hn) (CoL.fm f q)
  | _, _, .o h hn c q => .o (f.keep _ _ h hn) (f.nm (.inl h) hn) c (CoL.fm f q)
  | _, _, .k h hn c1 e1 e2 q => .k (f.rd h hn) (f.nm h hn) (CoL.fm f c1) e1 e2 (CoL.fm f q)
  | _, _, .x0 h c => .x0 (f.keep _ _ h (f.hot.nls (.inl h) exk_nh)) c
  | _, _, .x1 h c d q => .x1 (f.keep _ _ h (f.hot.nls (.inl h) exk_nh)) c (f.keep _ _ d (f.hot.nls (.inl d) fun z => z)) (Co.fm f q)
theorem CoL.fm (f : Fm M H M' H') : ∀ {vs : List V} {xs : List Dt}, CoL K M H vs xs → CoL K M' H' vs xs
  | _, _, .nil => .nil
  | _, _, .cons h q => .cons (Co.fm f h) (CoL.fm f q)
end
/-- fewer that may change, the same heap -/
theorem Co.less {v : V} {x : Dt} (h : Co K M H v x) (q : ∀ b, M' b → M b) (ht : Hotty M H) : Co K M' H v x := h.fm ⟨fun _ _ e _ => e, fun b z => .inl (q b z), ht⟩
theorem CoL.less {v : List V} {x : List Dt} (h : CoL K M H v x) (q : ∀ b, M' b → M b) (ht : Hotty M H) : CoL K M' H v x := h.fm ⟨fun _ _ e _ => e, fun b z => .inl (q b z), ht⟩
mutual
theorem Ho.stay (hb : ∀ b xs, Rd H b (.tup xs) → Rd H' b (.tup xs)) (hz : ∀ b o u, H b = some (.frz o u) → H' b = some (.frz o u)) : ∀ {v : V} {x : Dt} {F : List Addr}, Ho K H v x F → (∀ b ∈ F, H' b = H b) → Ho K H' v x F
  | _, _, _, .n, _ => .n
  | _, _, _, .f h, _ => .f h
  | _, _, _, .b x, _ => .b x
  | _, _, _, .i x, _ => .i x
  | _, _, _, .s x, _ => .s x
  | _, _, _, .t h q, k => .t (by rcases h with h | h; exact .inl (hb _ _ h); exact .inr h) (HoL.stay hb hz q k)
  | _, _, _, .z h q, k => .z (h.elim (fun ⟨o, z⟩ => .inl ⟨o, hz _ _ _ z⟩) .inr) (HoL.stay hb hz q k)
  | _, _, _, .l h q, k => .l ((k _ List.mem_cons_self).trans h) (HoL.stay hb hz q fun b hb => k b (List.mem_cons_of_mem _ hb))
  | _, _, _, .m h q, k => .m ((k _ List.mem_cons_self).trans h) (HoL.stay hb hz q fun b hb => k b (List.mem_cons_of_mem _ hb))
  | _, _, _, .o h c q, k => .o ((k _ List.mem_cons_self).trans h) c (HoL.stay hb hz q fun b hb => k b (List.mem_cons_of_mem _ hb))
  | _, _, _, .k h c1 e1 e2 q, k => .k ((k _ List.mem_cons_self).trans h) (HoL.stay hb hz c1 fun _ z => nomatch z) e1 e2 (HoL.stay hb hz q fun b hb => k b (List.mem_cons_of_mem _ hb))
theorem HoL.stay (hb : ∀ b xs, Rd H b (.tup xs) → Rd H' b (.tup xs)) (hz : ∀ b o u, H b = some (.frz o u) → H' b = some (.frz o u)) : ∀ {vs : List V} {xs : List Dt} {F : List Addr}, HoL K H vs xs F → (∀ b ∈ F, H' b = H b) → HoL K H' vs xs F
  | _, _, _, .nil, _ => .nil
  | _, _, _, .cons h q, k => .cons (Ho.stay hb hz h fun b hb => k b (List.mem_append_left _ hb)) (HoL.stay hb hz q fun b hb => k b (List.mem_append_right _ hb))
end
mutual
theorem Ho.cold : ∀ {v : V} {x : Dt} {F : List Addr}, Ho K H v x F → (∀ b ∈ F, ¬ M b) → Co K M H v x
  | _, _, _, .n, _ => .n
  | _, _, _, .f h, _ => .f h
  | _, _, _, .b x, _ => .b x
  | _, _, _, .i x, _ => .i x
  | _, _, _, .s x, _ => .s x
  | _, _, _, .t h q, k => .t h (HoL.cold q k)
  | _, _, _, .l h q, k => .l h (k _ List.mem_cons_self) (HoL.cold q fun b hb => k b (List.mem_cons_of_mem _ hb))
  | _, _, _, .z h q, k => .z h (HoL.cold q k)
  | _, _, _, .m h q, k => .m (.inl h) (k _ List.mem_cons_self) (HoL.cold q fun b hb => k b (List.mem_cons_of_mem _ hb))
  | _, _, _, .o h c q, k => .o h (k _ List.mem_cons_self) c (HoL.cold q fun b hb => k b (List.mem_cons_of_mem _ hb))
  | _, _, _, .k h c1 e1 e2 q, k => .k (.inl h) (k _ List.mem_cons_self) (HoL.cold c1 fun _ z => nomatch z) e1 e2 (HoL.cold q fun b hb => k b (List.mem_cons_of_mem _ hb))
theorem HoL.cold : ∀ {vs : List V} {xs : List Dt} {F : List Addr}, HoL K H vs xs F → (∀ b ∈ F, ¬ M b) → CoL K M H vs xs
  | _, _, _, .nil, _ => .nil
  | _, _, _, .cons h q, k => .cons (Ho.cold h fun b hb => k b (List.mem_append_left _ hb)) (HoL.cold q fun b hb => k b (List.mem_append_right _ hb))
end
mutual
theorem Ho.lists : ∀ {v : V} {x : Dt} {F : List Addr}, Ho K H v x F → ∀ b ∈ F, ∃ o, H b = some o ∧ hotO o
  | _, _, _, .n, _, h => nomatch h
  | _, _, _, .f _, _, h => nomatch h
  | _, _, _, .b x, _, h => nomatch h
  | _, _, _, .i x, _, h => nomatch h
  | _, _, _, .s x, _, h => nomatch h
  | _, _, _, .t h q, b, hb => HoL.lists q b hb
  | _, _, _, .z h q, b, hb => HoL.lists q b hb
  | _, _, _, .l h q, b, hb => by
    rcases List.mem_cons.mp hb with e | hb
    · rw [e]; exact ⟨_, h, trivial⟩
    · exact HoL.lists q b hb
  | _, _, _, .m h q, b, hb => by
    rcases List.mem_cons.mp hb with e | hb
    · rw [e]; exact ⟨_, h, trivial⟩
    · exact HoL.lists q b hb
  | _, _, _, .o h c q, b, hb => by
    rcases List.mem_cons.mp hb with e | hb
    · rw [e]; exact ⟨_, h, trivial⟩
    · exact HoL.lists q b hb
  | _, _, _, .k h _ _ _ q, b, hb => by
    rcases List.mem_cons.mp hb with e | hb
    · rw [e]; exact ⟨_, h, kt_hot⟩
    · exact HoL.lists q b hb
theorem HoL.lists : ∀ {vs : List V} {xs : List Dt} {F : List Addr}, HoL K H vs xs F → ∀ b ∈ F, ∃ o, H b = some o ∧ hotO o
  | _, _, _, .nil, _, h => nomatch h
  | _, _, _, .cons h q, b, hb => by
    rcases List.mem_append.mp hb with hb | hb
    · exact Ho.lists h b hb
    · exact HoL.lists q b hb
end
mutual
/-- flat data is both -/
theorem Co.ho : ∀ {v : V} {x : Dt}, Co K M H v x → x.flat = true → Ho K H v x []
  | _, _, .n, _ => .n
  | _, _, .f h, _ => .f h
  | _, _, .b x, _ => .b x
  | _, _, .i x, _ => .i x
  | _, _, .s x, _ => .s x
  | _, _, .t h q, k => .t h (CoL.ho q (by simpa [Dt.flat] using k))
  | _, _, .l h hn q, k => by simp [Dt.flat] at k
  | _, _, .z h q, k => .z h (CoL.ho q (by simpa [Dt.flat] using k))
  | _, _, .m h hn q, k => by simp [Dt.flat] at k
  | _, _, .o h hn c q, k => by simp [Dt.flat] at k
  | _, _, .k _ _ _ _ _ _, k => by simp [Dt.flat] at k
  | _, _, .x0 h c, k => by simp [Dt.flat] at k
  | _, _, .x1 h c d q, k => by simp [Dt.flat] at k
theorem CoL.ho : ∀ {vs : List V} {xs : List Dt}, CoL K M H vs xs → flatL xs = true → HoL K H vs xs []
  | _, _, .nil, _ => .nil
  | _, _, .cons h q, k => by
    simp only [flatL, Bool.and_eq_true] at k
    exact .cons (F := []) (F' := []) (Co.ho h k.1) (CoL.ho q k.2)
end
mutual
theorem Ho.flatE : ∀ {v : V} {x : Dt} {F : List Addr}, Ho K H v x F → x.flat = true → F = []
  | _, _, _, .n, _ => rfl
  | _, _, _, .f _, _ => rfl
  | _, _, _, .b x, _ => rfl
  | _, _, _, .i x, _ => rfl
  | _, _, _, .s x, _ => rfl
  | _, _, _, .t h q, k => HoL.flatE q (by simpa [Dt.flat] using k)
  | _, _, _, .z h q, k => HoL.flatE q (by simpa [Dt.flat] using k)
  | _, _, _, .l h q, k => by simp [Dt.flat] at k
  | _, _, _, .m h q, k => by simp [Dt.flat] at k
  | _, _, _, .o h c q, k => by simp [Dt.flat] at k
  | _, _, _, .k _ _ _ _ _, k => by simp [Dt.flat] at k
theorem HoL.flatE : ∀ {vs : List V} {xs : List Dt} {F : List Addr}, HoL K H vs xs F → flatL xs = true → F = []
  | _, _, _, .nil, _ => rfl
  | _, _, _, .cons h q, k => by
    simp only [flatL, Bool.and_eq_true] at k
    rw [Ho.flatE h k.1, HoL.flatE q k.2]; rfl
end
theorem Rp.lists {m : Md} {v : V} {x : Dt} {F : List Addr} (h : Rp K M H m v x F) : ∀ b ∈ F, ∃ o, H b = some o ∧ hotO o := by
  cases m with
  | c => obtain ⟨_, rfl⟩ := h; exact fun _ z => nomatch z
  | t => obtain ⟨a, vs, xs, _, _, rfl, e, _⟩ := h; exact fun b hb => by rw [List.mem_singleton.mp hb]; exact ⟨_, e, trivial⟩
  | a => exact Ho.lists h
/-- given up: anybody may hold it -/
theorem Rp.cold {m : Md} {v : V} {x : Dt} {F : List Addr} (h : Rp K M H m v x F) (ht : Hotty M H) (k : ∀ b ∈ F, ¬ M' b) (q : ∀ b, M' b → M b) : Co K M' H v x := by
  cases m with
  | c => exact h.1.less q ht
  | t => obtain ⟨a, vs, xs, rfl, rfl, rfl, e, c⟩ := h; exact .l e (k a (by simp)) (c.less q ht)
  | a => exact Ho.cold h k
end
/-- defs within which a nameless def is made, and the tables of code objects of these -/
def lamNames : List Str := ["came_at", "tail"]
def TabK (K : PySem.W.Frag) (P : Addr) (q : Str) : Prop := ∃ (x : Str) (f c : Addr) (fo co : Obj) (fd : FuncData) (vs : Array Value), x ∈ lamNames ∧ PySem.W.nsIn K mainGlobals x = some (some (.ref f)) ∧ K.lookup f = some fo ∧ fo.data = .func fd ∧ fd.code = .ref c ∧ K.lookup c = some co ∧ co.data = .fields vs ∧ vs[11]? = some (.ref P) ∧ q = x ++ ".<locals>." ++ "<lambda>"
def TabsK (K : PySem.W.Frag) (H : Hp) : Prop := ∀ P q, TabK K P q → LamX.TabS H P q
theorem TabsK.cold {K : PySem.W.Frag} {H H' : Hp} (t : TabsK K H) (hk : ∀ b o, H b = some o → ¬ hotO o → H' b = some o) : TabsK K H' := fun P q k => by
  obtain ⟨ps, h1, h2, h3⟩ := t P q k
  refine ⟨ps, hk _ _ h1 fun z => z, h2, fun pos cv hc => ?_⟩
  obtain ⟨c, e1, e2⟩ := h3 pos cv hc
  exact ⟨c, e1, hk _ _ e2 codeO_nh⟩
theorem TabsK.stay {K : PySem.W.Frag} {M : Addr → Prop} {H H' : Hp} (t : TabsK K H) (ht : Hotty M H) (hk : ∀ b o, H b = some o → ¬ M b → H' b = some o) : TabsK K H' :=
  t.cold fun b o e n => hk b o e fun z => by
    obtain ⟨u, h1, h2⟩ := ht b z
    rw [e] at h1; cases h1
    exact n h2
/-- the environment: each slot's data stand there; G: the owned lists of each slot -/
structure ER (K : PySem.W.Frag) (r : Ev) (σ : L2.St) (G : Nat → List Addr) (M : Addr → Prop) (H : Hp) : Prop where
  len : r.length = σ.length
  at_ : ∀ i x m, r[i]? = some (some (x, m)) → ∃ v, σ[i]? = some (some v) ∧ Rp K M H m v x (G i)
  emp : ∀ i, (∀ x m, r[i]? ≠ some (some (x, m))) → G i = []
  nd : ∀ i, (G i).Nodup
  dj : ∀ i j, i ≠ j → ∀ b, b ∈ G i → b ∉ G j
  sub : ∀ i b, b ∈ G i → M b
  hot : Hotty M H
  tab : TabsK K H
/-- from one state to a later one: nothing but the environment's own lists has changed -/
structure Evo (H : Hp) (M : Addr → Prop) (G : Nat → List Addr) (H' : Hp) (M' : Addr → Prop) (G' : Nat → List Addr) (F : List Addr) : Prop where
  pres' : ∀ b o, H b = some o → (∀ i, b ∉ G i) → ∀ {nt : notT o}, H' b = some o
  dom : ∀ b, H' b = none → H b = none
  grow : ∀ b, M' b → M b ∨ H b = none
  keep : ∀ b, M b → (∀ i, b ∉ G i) → M' b
  env : ∀ i b, b ∈ G' i → (∃ j, b ∈ G j) ∨ H b = none
  res : ∀ b, b ∈ F → (∃ j, b ∈ G j) ∨ H b = none
section
variable {K : PySem.W.Frag} {M M' M2 : Addr → Prop} {H H' H2 : Hp} {G G' G2 : Nat → List Addr} {F F2 : List Addr} {r r' : Ev} {σ σ' : L2.St}
theorem Evo.pres (e : Evo H M G H' M' G' F) (b : Addr) (o : HO) (h : H b = some o) (hb : ∀ i, b ∉ G i) (nt : notT o := by first | assumption | exact hot_nt (by assumption) | (intro _ z; cases z)) : H' b = some o := e.pres' b o h hb (nt := nt)
theorem Evo.refl : Evo H M G H M G [] := ⟨fun _ _ e _ => e, fun _ e => e, fun _ e => .inl e, fun _ e _ => e, fun i b h => .inl ⟨i, h⟩, fun _ h => nomatch h⟩
theorem Evo.trans (ht : Hotty M H) (a : Evo H M G H' M' G' F2) (c : Evo H' M' G' H2 M2 G2 F) : Evo H M G H2 M2 G2 F := by
  have out : ∀ b o, H b = some o → (∀ i, b ∉ G i) → ∀ i, b ∉ G' i := fun b o e hb i hi => by
    rcases a.env i b hi with ⟨j, q⟩ | q
    · exact hb j q
    · rw [e] at q; cases q
  have nn : ∀ b, H' b = none → H b = none := a.dom
  refine ⟨fun b o e hb => c.pres b o (a.pres b o e hb) (out b o e hb), fun b e => a.dom b (c.dom b e), fun b h => ?_, fun b h hb => ?_, fun i b h => ?_, fun b h => ?_⟩
  · rcases c.grow b h with h | h
    · exact a.grow b h
    · exact .inr (nn b h)
  · obtain ⟨xs, e, _⟩ := ht b h
    exact c.keep b (a.keep b h hb) (out b _ e hb)
  · rcases c.env i b h with ⟨j, q⟩ | q
    · exact a.env j b q
    · exact .inr (nn b q)
  · rcases c.res b h with ⟨j, q⟩ | q
    · exact a.env j b q
    · exact .inr (nn b q)
theorem ER.fm (e : ER K r σ G M H) (a : Evo H M G H' M' G' F) : Fm M H M' H' := ⟨fun b o q hn => a.pres b o q fun i hi => hn (e.sub i b hi), a.grow, e.hot⟩
/-- what is held besides stays as it was -/
theorem Rp.evo {m : Md} {v : V} {x : Dt} {F1 : List Addr} (h : Rp K M H m v x F1) (k : ∀ b ∈ F1, M b ∧ ∀ i, b ∉ G i) (e : ER K r σ G M H) (a : Evo H M G H' M' G' F) :
    Rp K M' H' m v x F1 ∧ (∀ b ∈ F1, M' b ∧ ∀ i, b ∉ G' i) ∧ ∀ b ∈ F1, b ∉ F := by
  have f := e.fm a
  have st : ∀ b ∈ F1, H' b = H b := fun b hb => by
    obtain ⟨xs, q, _⟩ := h.lists b hb
    rw [q]; exact a.pres b _ q (k b hb).2
  have nn : ∀ b ∈ F1, ∀ {j : Prop}, ((∃ j, b ∈ G j) ∨ H b = none) → j := fun b hb j z => by
    obtain ⟨xs, q, _⟩ := h.lists b hb
    rcases z with ⟨i, z⟩ | z
    · exact absurd z ((k b hb).2 i)
    · rw [q] at z; cases z
  refine ⟨?_, fun b hb => ⟨a.keep b (k b hb).1 (k b hb).2, fun i hi => nn b hb (a.env i b hi)⟩, fun b hb hf => nn b hb (a.res b hf)⟩
  cases m with
  | c => exact ⟨h.1.fm f, h.2⟩
  | t =>
    obtain ⟨a, vs, xs, rfl, rfl, rfl, q, c⟩ := h
    exact ⟨a, vs, xs, rfl, rfl, rfl, (st a (by simp)).trans q, c.fm f⟩
  | a => exact Ho.stay (fun b xs z => f.rd z (e.hot.nrd z)) (fun b o u z => f.keep b _ z (e.hot.nfz z)) h st
/-- one slot is given another value -/
theorem ER.put {i : Nat} {m : Md} {v : V} {x : Dt} (e : ER K r σ G M H) (h : Rp K M H m v x F) (nd : F.Nodup) (k : ∀ b ∈ F, M b ∧ ∀ j, b ∉ G j) (hi : i < σ.length) :
    ER K (r.set i (some (x, m))) (σ.set i (some v)) (fun j => if j = i then F else G j) M H := by
  refine ⟨by simp [e.len], fun j y n hj => ?_, fun j hj => ?_, fun j => ?_, fun j l hne b hb => ?_, fun j b hb => ?_, e.hot, e.tab⟩
  · by_cases q : j = i
    · subst q
      rw [List.getElem?_set_self (by rw [e.len]; exact hi)] at hj
      cases hj
      exact ⟨v, List.getElem?_set_self hi, by simpa using h⟩
    · rw [List.getElem?_set_ne (Ne.symm q)] at hj
      obtain ⟨w, h1, h2⟩ := e.at_ j y n hj
      exact ⟨w, by rw [List.getElem?_set_ne (Ne.symm q)]; exact h1, by simpa [q] using h2⟩
  · by_cases q : j = i
    · subst q
      exact absurd (List.getElem?_set_self (by rw [e.len]; exact hi)) (hj x m)
    · rw [if_neg q]
      exact e.emp j fun y n z => hj y n (by rw [List.getElem?_set_ne (Ne.symm q)]; exact z)
  · by_cases q : j = i
    · simpa [q] using nd
    · simpa [q] using e.nd j
  · by_cases q : j = i
    · subst q
      have : l ≠ j := Ne.symm hne
      simp only [if_true, if_neg this] at hb ⊢
      exact (k b hb).2 l
    · simp only [if_neg q] at hb
      by_cases q' : l = i
      · simp only [if_pos q']
        exact fun z => (k b z).2 j hb
      · simp only [if_neg q']
        exact e.dj j l hne b hb
  · by_cases q : j = i
    · simp only [if_pos q] at hb; exact (k b hb).1
    · simp only [if_neg q] at hb; exact e.sub j b hb
/-- a slot is forgotten -/
theorem ER.drop (e : ER K r σ G M H) (i : Nat) : ER K (r.set i none) σ (fun j => if j = i then [] else G j) M H := by
  refine ⟨by simp [e.len], fun j y n hj => ?_, fun j hj => ?_, fun j => ?_, fun j l hne b hb => ?_, fun j b hb => ?_, e.hot, e.tab⟩
  · by_cases q : j = i
    · subst q
      by_cases hl : j < r.length
      · rw [List.getElem?_set_self hl] at hj; cases hj
      · rw [List.getElem?_eq_none (by simpa using hl)] at hj; cases hj
    · rw [List.getElem?_set_ne (Ne.symm q)] at hj
      obtain ⟨w, h1, h2⟩ := e.at_ j y n hj
      exact ⟨w, h1, by simpa [q] using h2⟩
  · by_cases q : j = i
    · rw [if_pos q]
    · rw [if_neg q]
      exact e.emp j fun y n z => hj y n (by rw [List.getElem?_set_ne (Ne.symm q)]; exact z)
  · by_cases q : j = i
    · simp [q]
    · simpa [q] using e.nd j
  · by_cases q : j = i
    · simp [q] at hb
    · simp only [if_neg q] at hb
      by_cases q' : l = i
      · simp [q']
      · simp only [if_neg q']
        exact e.dj j l hne b hb
  · by_cases q : j = i
    · simp [q] at hb
    · simp only [if_neg q] at hb; exact e.sub j b hb
/-- the environment behind a change that is not its own -/
theorem ER.evoF (e : ER K r σ G M H) (hk : ∀ b o, H b = some o → (¬ M b ∨ ∃ i, b ∈ G i) → H' b = some o) (gr : ∀ b, M' b → M b ∨ H b = none) (kp : ∀ i b, b ∈ G i → M' b) (ht : Hotty M' H') : ER K r σ G M' H' := by
  have f : Fm M H M' H' := ⟨fun b o q hn => hk b o q (.inl hn), gr, e.hot⟩
  refine ⟨e.len, fun i x m h => ?_, e.emp, e.nd, e.dj, kp, ht, e.tab.stay e.hot fun b o q hn => hk b o q (.inl hn)⟩
  obtain ⟨v, h1, h2⟩ := e.at_ i x m h
  refine ⟨v, h1, ?_⟩
  have st : ∀ b ∈ G i, H' b = H b := fun b hb => by
    obtain ⟨xs, q, _⟩ := h2.lists b hb
    rw [q]; exact hk b _ q (.inr ⟨i, hb⟩)
  cases m with
  | c => exact ⟨h2.1.fm f, h2.2⟩
  | t =>
    obtain ⟨a, vs, xs, rfl, rfl, eG, q, c⟩ := h2
    exact ⟨a, vs, xs, rfl, rfl, eG, (st a (by rw [eG]; simp)).trans q, c.fm f⟩
  | a => exact Ho.stay (fun b xs z => f.rd z (e.hot.nrd z)) (fun b o u z => f.keep b _ z (e.hot.nfz z)) h2 st
/-- the same, where tables may have grown -/
theorem ER.evoW (e : ER K r σ G M H) (tb : TabsK K H') (hk : ∀ b o, H b = some o → (¬ M b ∨ ∃ i, b ∈ G i) → ∀ {nt : notT o}, H' b = some o) (gr : ∀ b, M' b → M b ∨ H b = none) (kp : ∀ i b, b ∈ G i → M' b) (ht : Hotty M' H') : ER K r σ G M' H' := by
  have f : Fm M H M' H' := ⟨fun b o q hn {nt} => hk b o q (.inl hn) (nt := nt), gr, e.hot⟩
  refine ⟨e.len, fun i x m h => ?_, e.emp, e.nd, e.dj, kp, ht, tb⟩
  obtain ⟨v, h1, h2⟩ := e.at_ i x m h
  refine ⟨v, h1, ?_⟩
  have st : ∀ b ∈ G i, H' b = H b := fun b hb => by
    obtain ⟨xs, q, ho⟩ := h2.lists b hb
    rw [q]; exact hk b _ q (.inr ⟨i, hb⟩) (nt := hot_nt ho)
  cases m with
  | c => exact ⟨h2.1.fm f, h2.2⟩
  | t =>
    obtain ⟨a, vs, xs, rfl, rfl, eG, q, c⟩ := h2
    exact ⟨a, vs, xs, rfl, rfl, eG, (st a (by rw [eG]; simp)).trans q, c.fm f⟩
  | a => exact Ho.stay (fun b xs z => f.rd z (e.hot.nrd z)) (fun b o u z => f.keep b _ z (e.hot.nfz z)) h2 st
end
end Y
namespace Y
open PySem L2
/-- an expression's end -/
structure PX (K : PySem.W.Frag) (r' : Ev) (σ : L2.St) (H : Hp) (M : Addr → Prop) (G : Nat → List Addr) (v : V) (x : Dt) (m : Md) (H' : Hp) (M' : Addr → Prop) (G' : Nat → List Addr) (F : List Addr) : Prop where
  er : ER K r' σ G' M' H'
  ev : Evo H M G H' M' G' F
  rp : Rp K M' H' m v x F
  nd : F.Nodup
  hot : ∀ b ∈ F, M' b ∧ ∀ i, b ∉ G' i
/-- the fields of an exception -/
def XdOk (K : PySem.W.Frag) (M : Addr → Prop) (H : Hp) (d : Option Addr) (fs : List (Str × Dt)) : Prop :=
  match fs with
  | [] => d = none
  | _ => ∃ dx vs, d = some dx ∧ H dx = some (.xd ((fs.map (·.1)).zip vs)) ∧ vs.length = fs.length ∧ CoL K M H vs (fs.map (·.2))
/-- an exception's end -/
structure XX (K : PySem.W.Frag) (r' : Ev) (σ : L2.St) (H : Hp) (M : Addr → Prop) (G : Nat → List Addr) (fs : List (Str × Dt)) (d : Option Addr) (H' : Hp) (M' : Addr → Prop) (G' : Nat → List Addr) : Prop where
  er : ER K r' σ G' M' H'
  ev : Evo H M G H' M' G' []
  xd : XdOk K M' H' d fs
def tI (K : PySem.W.Frag) (cl : Str → Addr) (W : WX) (f : Ev → Ou Vl) : TE := fun σ H Q => ∃ r M G, ER K r σ G M H ∧
  match f r with
  | .ok (x, m) r' => ∀ v H' M' G' F, PX K r' σ H M G v x m H' M' G' F → Q v H'
  | .ex c fs r' => ∀ d H' M' G', XX K r' σ H M G fs d H' M' G' → W (.ref (cl c)) d σ H'
  | .no => False
/-- an expression | a test -/
def JE (X : Cx) (cl : Str → Addr) (W : WX) (e : Expr) (f : Ev → Ou Vl) : Prop := Takes X W → PE X e (tI X.K cl W f)
def tIB (K : PySem.W.Frag) (cl : Str → Addr) (W : WX) (f : Ev → Ou Bool) : TT := fun σ H Q => ∃ r M G, ER K r σ G M H ∧
  match f r with
  | .ok b r' => ∀ H' M' G', ER K r' σ G' M' H' → Evo H M G H' M' G' [] → Q b H'
  | .ex c fs r' => ∀ d H' M' G', XX K r' σ H M G fs d H' M' G' → W (.ref (cl c)) d σ H'
  | .no => False
def JT (X : Cx) (cl : Str → Addr) (W : WX) (e : Expr) (f : Ev → Ou Bool) : Prop := Takes X W → PT X e (tIB X.K cl W f)
theorem _root_.L2.PE.yimp {X : Cx} {e : Expr} {t t' : TE} (h : PE X e t) (k : ∀ σ H Q, t' σ H Q → t σ H Q) : PE X e t' := ⟨fun pins s σ H Q I q => h.run pins s σ H Q I (k σ H Q q)⟩
theorem _root_.L2.PT.yimp {X : Cx} {e : Expr} {t t' : TT} (h : PT X e t) (k : ∀ σ H Q, t' σ H Q → t σ H Q) : PT X e t' := ⟨fun pins s σ H Q I q => h.run pins s σ H Q I (k σ H Q q)⟩
/-- an operand: an expression, whose value is given up, or a variable, read where all operands are there -/
inductive Am where
  | e (f : Ev → Ou Vl) | v (i : Nat)
inductive Ag where
  | d (x : Dt) | v (i : Nat)
def evA : List Am → Ev → Ou (List Ag)
  | [], r => .ok [] r
  | .e f :: as, r => match f r with
    | .ok (x, _) r1 => match evA as r1 with
      | .ok ys r2 => .ok (.d x :: ys) r2
      | .ex c fs r2 => .ex c fs r2
      | .no => .no
    | .ex c fs r1 => .ex c fs r1
    | .no => .no
  | .v i :: as, r => match r[i]? with
    | some (some _) => match evA as r with
      | .ok ys r2 => .ok (.v i :: ys) r2
      | .ex c fs r2 => .ex c fs r2
      | .no => .no
    | _ => .no
/-- the operand's own judgement and reading -/
def JO (X : Cx) (cl : Str → Addr) (W : WX) (e : Expr) : Am → Prop
  | .e f => JE X cl W e f
  | .v i => PE X e (tVar i)
def tO (K : PySem.W.Frag) (cl : Str → Addr) (W : WX) : Am → TE
  | .e f => tI K cl W f
  | .v i => tVar i
theorem JO.pe {X : Cx} {cl : Str → Addr} {W : WX} {e : Expr} {a : Am} (h : JO X cl W e a) (tk : Takes X W) : PE X e (tO X.K cl W a) := by
  cases a with
  | e f => exact h tk
  | v i => exact h
def tOs (K : PySem.W.Frag) (cl : Str → Addr) (W : WX) : List Am → L2.St → Hp → (List V → Hp → Prop) → Prop
  | [], _, H, k => k [] H
  | a :: as, σ, H, k => tO K cl W a σ H fun x H1 => tOs K cl W as σ H1 fun vs H2 => k (x :: vs) H2
inductive AgL (K : PySem.W.Frag) (M : Addr → Prop) (H : Hp) (σ : L2.St) : List V → List Ag → Prop
  | nil : AgL K M H σ [] []
  | d {v : V} {vs : List V} {x : Dt} {as : List Ag} : Co K M H v x → AgL K M H σ vs as → AgL K M H σ (v :: vs) (.d x :: as)
  | v {v : V} {vs : List V} {i : Nat} {as : List Ag} : σ[i]? = some (some v) → AgL K M H σ vs as → AgL K M H σ (v :: vs) (.v i :: as)
theorem AgL.fm {K : PySem.W.Frag} {M M' : Addr → Prop} {H H' : Hp} {σ : L2.St} (f : Fm M H M' H') : ∀ {vs : List V} {as : List Ag}, AgL K M H σ vs as → AgL K M' H' σ vs as
  | _, _, .nil => .nil
  | _, _, .d h q => .d (h.fm f) (q.fm f)
  | _, _, .v h q => .v h (q.fm f)
section
variable {K : PySem.W.Frag} {cl : Str → Addr} {W : WX} {M M' : Addr → Prop} {H H' : Hp} {G G' : Nat → List Addr} {r r' : Ev} {σ : L2.St}
/-- less may change: what a value held is given up -/
theorem ER.lessM (e : ER K r σ G M H) (q : ∀ b, M' b → M b) (k : ∀ i b, b ∈ G i → M' b) : ER K r σ G M' H :=
  e.evoF (fun b o h _ => h) (fun b z => .inl (q b z)) k fun b z => e.hot b (q b z)
/-- an expression's value given up -/
theorem PX.giveUp (ht : Hotty M H) {v : V} {x : Dt} {m : Md} {F : List Addr} (p : PX K r' σ H M G v x m H' M' G' F) :
    ∃ M2, ER K r' σ G' M2 H' ∧ Evo H M G H' M2 G' [] ∧ Co K M2 H' v x := by
  refine ⟨fun b => M' b ∧ b ∉ F, p.er.lessM (fun b z => z.1) (fun i b hb => ⟨p.er.sub i b hb, fun hf => (p.hot b hf).2 i hb⟩), ⟨p.ev.pres', p.ev.dom, fun b z => p.ev.grow b z.1, fun b h hb => ⟨p.ev.keep b h hb, fun hf => ?_⟩, p.ev.env, fun _ h => nomatch h⟩, ?_⟩
  · rcases p.ev.res b hf with ⟨j, z⟩ | z
    · exact hb j z
    · obtain ⟨xs, q, _⟩ := ht b h
      rw [q] at z; cases z
  · exact p.rp.cold p.er.hot (fun b hb z => z.2 hb) fun b z => z.1
/-- operands one by one -/
theorem tOs_ok : ∀ (as : List Am) {r : Ev} {M : Addr → Prop} {G : Nat → List Addr} {H : Hp} {k : List V → Hp → Prop}, ER K r σ G M H →
    (match evA as r with
      | .ok ys r' => ∀ vs H' M' G', ER K r' σ G' M' H' → Evo H M G H' M' G' [] → AgL K M' H' σ vs ys → k vs H'
      | .ex c fs r' => ∀ d H' M' G', XX K r' σ H M G fs d H' M' G' → W (.ref (cl c)) d σ H'
      | .no => False) → tOs K cl W as σ H k
  | [], r, M, G, H, k, e, h => h [] H M G e .refl .nil
  | .e f :: as, r, M, G, H, k, e, h => by
    show tI K cl W f σ H _
    refine ⟨r, M, G, e, ?_⟩
    simp only [evA] at h
    cases hf : f r with
    | ok xm r1 =>
      obtain ⟨x, m⟩ := xm
      rw [hf] at h
      intro v H1 M1 G1 F p
      obtain ⟨M2, e2, v2, c2⟩ := p.giveUp e.hot
      refine tOs_ok as e2 ?_
      simp only at h
      cases ha : evA as r1 with
      | ok ys r2 =>
        rw [ha] at h
        intro vs H3 M3 G3 e3 v3 a3
        exact h (v :: vs) H3 M3 G3 e3 (v2.trans e.hot v3) (.d (c2.fm (e2.fm v3)) a3)
      | ex c fs r2 =>
        rw [ha] at h
        intro d H3 M3 G3 q
        exact h d H3 M3 G3 ⟨q.er, v2.trans e.hot q.ev, q.xd⟩
      | no =>
        rw [ha] at h
        exact h
    | ex c fs r1 => rw [hf] at h; exact h
    | no => rw [hf] at h; exact h
  | .v i :: as, r, M, G, H, k, e, h => by
    simp only [evA] at h
    cases hr : r[i]? with
    | none => rw [hr] at h; exact h.elim
    | some o =>
      cases o with
      | none => rw [hr] at h; exact h.elim
      | some xm =>
        obtain ⟨x, m⟩ := xm
        rw [hr] at h
        obtain ⟨v, hv, _⟩ := e.at_ i x m hr
        refine ⟨v, hv, tOs_ok as e ?_⟩
        simp only at h
        cases ha : evA as r with
        | ok ys r2 =>
          rw [ha] at h
          intro vs H3 M3 G3 e3 v3 a3
          exact h (v :: vs) H3 M3 G3 e3 v3 (.v hv a3)
        | ex c fs r2 => rw [ha] at h; exact h
        | no => rw [ha] at h; exact h
def look (r : Ev) : List Ag → Option (List Dt)
  | [] => some []
  | .d x :: ys => (look r ys).map (x :: ·)
  | .v i :: ys => match r[i]? with
    | some (some (x, _)) => (look r ys).map (x :: ·)
    | _ => none
/-- the variables among the operands are given up -/
def frz : List Ag → Ev → Ev
  | [], r => r
  | .d _ :: ys, r => frz ys r
  | .v i :: ys, r => match r[i]? with
    | some (some (x, _)) => frz ys (r.set i (some (x, .c)))
    | _ => frz ys r
/-- the owned lists of the variables among the operands -/
def owns (G : Nat → List Addr) : List Ag → List Addr
  | [] => []
  | .d _ :: ys => owns G ys
  | .v i :: ys => G i ++ owns G ys
theorem mem_owns {b : Addr} : ∀ {ys : List Ag}, b ∈ owns G ys → ∃ i, b ∈ G i
  | .d _ :: ys, h => mem_owns (ys := ys) h
  | .v i :: ys, h => by
    rcases List.mem_append.mp h with h | h
    · exact ⟨i, h⟩
    · exact mem_owns h
/-- where nothing of the operands' variables may change, all operands are cold -/
theorem look_cold (e : ER K r σ G M H) (k : ∀ b, M' b → M b) : ∀ {ys : List Ag} {vs : List V} {xs : List Dt}, (∀ b ∈ owns G ys, ¬ M' b) → AgL K M H σ vs ys → look r ys = some xs → CoL K M' H vs xs
  | [], _, _, _, .nil, h => by cases h; exact .nil
  | .d x :: ys, _, _, q, .d h a, hl => by
    simp only [look, Option.map_eq_some_iff] at hl
    obtain ⟨xs, h1, rfl⟩ := hl
    exact .cons (h.less k e.hot) (look_cold (ys := ys) e k q a h1)
  | .v i :: ys, _, _, q, .v h a, hl => by
    simp only [look] at hl
    split at hl
    · rename_i x m hr
      simp only [Option.map_eq_some_iff] at hl
      obtain ⟨xs, h1, rfl⟩ := hl
      obtain ⟨v, hv, rp⟩ := e.at_ i x m hr
      rw [h] at hv; cases hv
      exact .cons (rp.cold e.hot (fun b hb => q b (List.mem_append_left _ hb)) k) (look_cold (ys := ys) e k (fun b hb => q b (List.mem_append_right _ hb)) a h1)
    · cases hl
/-- a variable given up -/
theorem ER.give {i : Nat} {x : Dt} {m : Md} (e : ER K r σ G M H) (hr : r[i]? = some (some (x, m))) :
    ER K (r.set i (some (x, .c))) σ (fun j => if j = i then [] else G j) (fun b => M b ∧ b ∉ G i) H := by
  obtain ⟨v, hv, rp⟩ := e.at_ i x m hr
  have hi : i < σ.length := (List.getElem?_eq_some_iff.mp hv).1
  have e2 : ER K (r.set i none) σ (fun j => if j = i then [] else G j) (fun b => M b ∧ b ∉ G i) H := (e.drop i).lessM (fun b z => z.1) fun j b hb => by
    by_cases q : j = i
    · simp [q] at hb
    · simp only [if_neg q] at hb
      exact ⟨e.sub j b hb, e.dj j i q b hb⟩
  have e3 := e2.put (i := i) (m := .c) (v := v) (x := x) (F := []) ⟨rp.cold e.hot (fun b hb z => z.2 hb) fun b z => z.1, rfl⟩ List.nodup_nil (fun b hb => nomatch hb) hi
  have s1 : σ.set i (some v) = σ := by
    apply List.ext_getElem?
    intro j
    by_cases q : i = j
    · subst q; rw [List.getElem?_set_self hi, hv]
    · rw [List.getElem?_set_ne q]
  rw [s1, List.set_set] at e3
  have g1 : (fun j => if j = i then ([] : List Addr) else if j = i then [] else G j) = fun j => if j = i then [] else G j := by
    funext j; by_cases q : j = i <;> simp [q]
  rw [g1] at e3
  exact e3
theorem ER.frz : ∀ (ys : List Ag) {r : Ev} {G : Nat → List Addr} {M : Addr → Prop}, ER K r σ G M H → ∃ G', ER K (Y.frz ys r) σ G' (fun b => M b ∧ b ∉ owns G ys) H ∧ ∀ i b, b ∈ G' i → b ∈ G i
  | [], r, G, M, e => ⟨G, e.lessM (fun b z => z.1) (fun i b hb => ⟨e.sub i b hb, by simp [owns]⟩), fun _ _ h => h⟩
  | .d x :: ys, r, G, M, e => ER.frz ys e
  | .v i :: ys, r, G, M, e => by
    simp only [Y.frz]
    cases hr : r[i]? with
    | none =>
      obtain ⟨G', e', s⟩ := ER.frz ys e
      have z : G i = [] := e.emp i fun x m h => by rw [hr] at h; cases h
      exact ⟨G', by simpa [owns, z] using e', s⟩
    | some o =>
      cases o with
      | none =>
        obtain ⟨G', e', s⟩ := ER.frz ys e
        have z : G i = [] := e.emp i fun x m h => by rw [hr] at h; cases h
        exact ⟨G', by simpa [owns, z] using e', s⟩
      | some xm =>
        obtain ⟨x, m⟩ := xm
        obtain ⟨G', e', s⟩ := ER.frz ys (e.give hr)
        have hs : ∀ j b, b ∈ G' j → b ∈ G j := fun j b hb => by
          have := s j b hb
          by_cases q : j = i
          · simp [q] at this
          · simpa [q] using this
        have ow : ∀ (zs : List Ag) b, b ∈ owns (fun j => if j = i then [] else G j) zs → b ∈ owns G zs := by
          intro zs
          induction zs with
          | nil => intro b h; exact h
          | cons z zs ih =>
            intro b h
            cases z with
            | d x => exact ih b h
            | v j =>
              rcases List.mem_append.mp h with h | h
              · by_cases q : j = i
                · simp [q] at h
                · exact List.mem_append_left _ (by simpa [q] using h)
              · exact List.mem_append_right _ (ih b h)
        have ow2 : ∀ (zs : List Ag) b, b ∈ owns G zs → b ∉ G i → b ∈ owns (fun j => if j = i then [] else G j) zs := by
          intro zs
          induction zs with
          | nil => intro b h _; exact h
          | cons z zs ih =>
            intro b h hn
            cases z with
            | d x => exact ih b h hn
            | v j =>
              rcases List.mem_append.mp h with h | h
              · by_cases q : j = i
                · rw [q] at h; exact absurd h hn
                · exact List.mem_append_left _ (by simpa [q] using h)
              · exact List.mem_append_right _ (ih b h hn)
        refine ⟨G', e'.lessM (M' := fun b => M b ∧ b ∉ owns G (.v i :: ys)) (fun b z => ?_) (fun j b hb => ?_), hs⟩
        · have z2 := z.2
          simp only [owns, List.mem_append, not_or] at z2
          exact ⟨⟨z.1, z2.1⟩, fun q => z2.2 (ow ys b q)⟩
        · have := e'.sub j b hb
          simp only [owns, List.mem_append, not_or]
          exact ⟨this.1.1, this.1.2, fun q => this.2 (ow2 ys b q this.1.2)⟩
/-- what a primitive leaves: all stays, its answer is new or of the operands' -/
structure Mk (K : PySem.W.Frag) (H : Hp) (M : Addr → Prop) (v : V) (x : Dt) (m : Md) (H' : Hp) (F : List Addr) : Prop where
  same : ∀ b o, H b = some o → H' b = some o
  new : ∀ b ∈ F, H b = none
  nd : F.Nodup
  rp : Rp K (fun b => M b ∨ b ∈ F) H' m v x F
/-- a rule over values tells what f does on data -/
def Pr (K : PySem.W.Frag) (rr : List V → Hp → VK → Prop) (f : List Dt → Option Vl) : Prop :=
  ∀ (M : Addr → Prop) (H : Hp) (vs : List V) (xs : List Dt) (x : Dt) (m : Md) (Q : VK), Hotty M H → CoL K M H vs xs → f xs = some (x, m) → (∀ v H' F, Mk K H M v x m H' F → Q v H') → rr vs H Q
def mP (f : List Dt → Option Vl) (as : List Am) : Ev → Ou Vl := fun r => match evA as r with
  | .ok ys r1 => match look r1 ys with
    | some xs => match f xs with
      | some (x, m) => .ok (x, m) (if x.flat then r1 else frz ys r1)
      | none => .no
    | none => .no
  | .ex c fs r1 => .ex c fs r1
  | .no => .no
theorem Mk.env {v : V} {x : Dt} {m : Md} {F : List Addr} {M1 : Addr → Prop} (e : ER K r σ G M H) (p : Mk K H M1 v x m H' F) :
    ER K r σ G (fun b => M b ∨ b ∈ F) H' ∧ Evo H M G H' (fun b => M b ∨ b ∈ F) G F ∧ ∀ b ∈ F, ¬ M b := by
  have nM : ∀ b ∈ F, ¬ M b := fun b hb z => by
    obtain ⟨xs, q, _⟩ := e.hot b z
    rw [p.new b hb] at q; cases q
  have ht' : Hotty (fun b => M b ∨ b ∈ F) H' := fun b z => by
    rcases z with z | z
    · obtain ⟨xs, q, ho⟩ := e.hot b z
      exact ⟨xs, p.same b _ q, ho⟩
    · exact p.rp.lists b z
  have gr : ∀ b, (M b ∨ b ∈ F) → M b ∨ H b = none := fun b z => by
    rcases z with z | z
    · exact .inl z
    · exact .inr (p.new b z)
  have dm : ∀ b, H' b = none → H b = none := fun b h => by
    cases q : H b with
    | none => rfl
    | some o =>
      rw [p.same b o q] at h
      cases h
  exact ⟨e.evoF (fun b o h _ => p.same b o h) gr (fun i b hb => .inl (e.sub i b hb)) ht', ⟨fun b o h _ => p.same b o h, dm, gr, fun b h _ => .inl h, fun i b h => .inl ⟨i, h⟩, fun b h => .inr (p.new b h)⟩, nM⟩
theorem Mk.px {v : V} {x : Dt} {m : Md} {F : List Addr} {G0 : Nat → List Addr} {M0 M1 : Addr → Prop} {H0 : Hp} (e : ER K r σ G M H) (ev : Evo H0 M0 G0 H M G []) (ht : Hotty M0 H0)
    (p : Mk K H M1 v x m H' F) (hx : x.flat = true) : PX K r σ H0 M0 G0 v x m H' (fun b => M b ∨ b ∈ F) G F := by
  obtain ⟨e', v2, nM⟩ := p.env e
  refine ⟨e', ev.trans ht v2, ?_, p.nd, fun b hb => ⟨.inr hb, fun i hi => nM b hb (e.sub i b hi)⟩⟩
  -- flat: no lists within
  cases m with
  | c =>
    have hh := (p.rp.1).ho hx
    exact ⟨(hh.cold (M := fun b => M b ∨ b ∈ F) fun b hb => nomatch hb), p.rp.2⟩
  | t =>
    obtain ⟨a, vs, xs, rfl, rfl, rfl, q, c⟩ := p.rp
    simp [Dt.flat] at hx
  | a => exact p.rp
/-- .. where the answer may share the operands' lists -/
theorem Mk.px2 {v : V} {x : Dt} {m : Md} {F : List Addr} {G0 : Nat → List Addr} {M0 : Addr → Prop} {H0 : Hp} (e : ER K r σ G M H) (ev : Evo H0 M0 G0 H M G []) (ht : Hotty M0 H0)
    (p : Mk K H M v x m H' F) : PX K r σ H0 M0 G0 v x m H' (fun b => M b ∨ b ∈ F) G F := by
  obtain ⟨e', v2, nM⟩ := p.env e
  exact ⟨e', ev.trans ht v2, p.rp, p.nd, fun b hb => ⟨.inr hb, fun i hi => nM b hb (e.sub i b hi)⟩⟩
/-- THE STEP for primitives: operands, then the rule over values -/
theorem mP_ok {rr : List V → Hp → VK → Prop} {f : List Dt → Option Vl} (hp : Pr K rr f) {as : List Am} {Q : VK} (h : tI K cl W (mP f as) σ H Q) : tOs K cl W as σ H fun vs H1 => rr vs H1 Q := by
  obtain ⟨r, M, G, e, h⟩ := h
  refine tOs_ok as e ?_
  simp only [mP] at h
  cases ha : evA as r with
  | no => rw [ha] at h; exact h
  | ex c fs r1 => rw [ha] at h; exact h
  | ok ys r1 =>
    rw [ha] at h
    simp only at h
    intro vs H1 M1 G1 e1 v1 a1
    cases hl : look r1 ys with
    | none => rw [hl] at h; exact h.elim
    | some xs =>
      rw [hl] at h
      simp only at h
      cases hf : f xs with
      | none => rw [hf] at h; exact h.elim
      | some xm =>
        obtain ⟨x, m⟩ := xm
        rw [hf] at h
        simp only at h
        have cc : CoL K (fun b => M1 b ∧ b ∉ owns G1 ys) H1 vs xs := look_cold e1 (fun b z => z.1) (fun b hb z => z.2 hb) a1 hl
        have ht1 : Hotty (fun b => M1 b ∧ b ∉ owns G1 ys) H1 := fun b z => e1.hot b z.1
        by_cases hx : x.flat = true
        · rw [if_pos hx] at h
          exact hp _ H1 vs xs x m Q ht1 cc hf fun v H2 F p => h v H2 _ _ F (p.px e1 v1 e.hot hx)
        · rw [if_neg hx] at h
          obtain ⟨G2, e2, s2⟩ := e1.frz ys
          have v2 : Evo H1 M1 G1 H1 (fun b => M1 b ∧ b ∉ owns G1 ys) G2 [] := ⟨fun _ _ h _ => h, fun _ h => h, fun b z => .inl z.1, fun b h hb => ⟨h, fun z => let ⟨i, q⟩ := mem_owns z; hb i q⟩, fun i b hb => .inl ⟨i, s2 i b hb⟩, fun _ h => nomatch h⟩
          exact hp _ H1 vs xs x m Q ht1 cc hf fun v H2 F p => h v H2 _ _ F (p.px2 e2 (v1.trans e.hot v2) e.hot)
end
end Y
namespace Y
open PySem L2
section
variable {X : Cx} {cl : Str → Addr} {W : WX} {K : PySem.W.Frag} {σ : L2.St} {H : Hp}
def mV (i : Nat) : Ev → Ou Vl := fun r => match r[i]? with
  | some (some (x, _)) => .ok (x, .c) (if x.flat then r else r.set i (some (x, .c)))
  | _ => .no
theorem tI_var {i : Nat} {Q : VK} (h : tI K cl W (mV i) σ H Q) : tVar i σ H Q := by
  obtain ⟨r, M, G, e, h⟩ := h
  simp only [mV] at h
  cases hr : r[i]? with
  | none => rw [hr] at h; exact h.elim
  | some o =>
    cases o with
    | none => rw [hr] at h; exact h.elim
    | some xm =>
      obtain ⟨x, m⟩ := xm
      rw [hr] at h
      simp only at h
      obtain ⟨v, hv, rp⟩ := e.at_ i x m hr
      refine ⟨v, hv, ?_⟩
      by_cases hx : x.flat = true
      · rw [if_pos hx] at h
        refine h v H M G [] ⟨e, .refl, ⟨?_, rfl⟩, List.nodup_nil, fun _ z => nomatch z⟩
        cases m with
        | c => exact rp.1
        | t =>
          obtain ⟨a, vs, xs, rfl, rfl, _⟩ := rp
          simp [Dt.flat] at hx
        | a => exact Ho.cold rp (by rw [Ho.flatE rp hx]; exact fun _ z => nomatch z)
      · rw [if_neg hx] at h
        have e2 := e.give hr
        obtain ⟨v', hv', rp'⟩ := e2.at_ i x .c (List.getElem?_set_self (List.getElem?_eq_some_iff.mp hr).1)
        rw [hv] at hv'; cases hv'
        refine h v H _ _ [] ⟨e2, ⟨fun _ _ h _ => h, fun _ h => h, fun b z => .inl z.1, fun b h hb => ⟨h, hb i⟩, fun j b hb => .inl ⟨j, ?_⟩, fun _ h => nomatch h⟩, ⟨rp'.1, rfl⟩, List.nodup_nil, fun _ z => nomatch z⟩
        by_cases q : j = i
        · simp [q] at hb
        · simpa [q] using hb
theorem je_v {e : Expr} (i : Nat) (h : PE X e (tVar i)) : JE X cl W e (mV i) := fun _ => h.yimp fun _ _ _ q => tI_var q
theorem jo_v {e : Expr} (i : Nat) (h : PE X e (tVar i)) : JO X cl W e (.v i) := h
theorem jo_e {e : Expr} {f : Ev → Ou Vl} (h : JE X cl W e f) : JO X cl W e (.e f) := h
def mK (x : Dt) : Ev → Ou Vl := fun r => .ok (x, .c) r
theorem je_k {e : Expr} {v : V} {x : Dt} (h : PE X e (tC v)) (c : ∀ M H, Co X.K M H v x) : JE X cl W e (mK x) := fun _ => h.yimp fun σ H Q ⟨r, M, G, e, q⟩ =>
  q v H M G [] ⟨e, .refl, ⟨c M H, rfl⟩, List.nodup_nil, fun _ z => nomatch z⟩
theorem je_int {i j pos} : JE X cl W (.Constant (.int i) j pos) (mK (.i i)) := je_k pe_int fun _ _ => .i i
theorem je_bl {i j pos} : JE X cl W (.Constant (.bool i) j pos) (mK (.b i)) := je_k pe_bl fun _ _ => .b i
theorem je_non {j pos} : JE X cl W (.Constant .none j pos) (mK .n) := je_k pe_non fun _ _ => .n
def ap1 (r : V → Hp → VK → Prop) : List V → Hp → VK → Prop
  | [x], H, Q => r x H Q
  | _, _, _ => False
def ap2 (r : R2) : List V → Hp → VK → Prop
  | [x, y], H, Q => r x y H Q
  | _, _, _ => False
theorem je_bin {a b : Expr} {op : Operator} {r : R2} {A B : Am} {pos : Pos} {f : List Dt → Option Vl} (ho : OpR X (binaryOp op) r) (hp : Pr X.K (ap2 r) f) (ha : JO X cl W a A) (hb : JO X cl W b B) :
    JE X cl W (.BinOp a op b pos) (mP f [A, B]) := fun tk => (pe_op ho (ha.pe tk) (hb.pe tk)).yimp fun _ _ _ q => mP_ok hp q
theorem je_un {a : Expr} {op : UnaryOp} {r : V → Hp → VK → Prop} {A : Am} {pos : Pos} {f : List Dt → Option Vl} (ho : UnR X (unaryOp op) r) (hp : Pr X.K (ap1 r) f) (ha : JO X cl W a A) :
    JE X cl W (.UnaryOp op a pos) (mP f [A]) := fun tk => (pe_un ho (ha.pe tk)).yimp fun _ _ _ q => mP_ok hp q
theorem je_cmp {a b : Expr} {op : CmpOp} {r : R2} {A B : Am} {pos : Pos} {f : List Dt → Option Vl} (ho : OpR X (compareOp op) r) (hm : behindInMarks op b = false) (hp : Pr X.K (ap2 r) f) (ha : JO X cl W a A) (hb : JO X cl W b B) :
    JE X cl W (.Compare a [op] [b] pos) (mP f [A, B]) := fun tk => (pe_cmpR ho (ha.pe tk) (hb.pe tk) hm).yimp fun _ _ _ q => mP_ok hp q
theorem je_ix {a b : Expr} {r : R2} {A B : Am} {pos : Pos} {f : List Dt → Option Vl} (ho : IxR X r) (hp : Pr X.K (ap2 r) f) (ha : JO X cl W a A) (hb : JO X cl W b B) (hs : PlainIx b) :
    JE X cl W (.Subscript a b pos) (mP f [A, B]) := fun tk => (pe_ix ho (ha.pe tk) (hb.pe tk) hs).yimp fun _ _ _ q => mP_ok hp q
inductive JA (X : Cx) (cl : Str → Addr) (W : WX) : List Expr → List Am → Prop
  | nil : JA X cl W [] []
  | cons {e : Expr} {es : List Expr} {a : Am} {as : List Am} : JO X cl W e a → starEach (e :: es) X.env = (false, eval e X.env) :: starEach es X.env → JA X cl W es as → JA X cl W (e :: es) (a :: as)
def tAs (K : PySem.W.Frag) (cl : Str → Addr) (W : WX) (as : List Am) : TA := tOs K cl W as
theorem JA.pa {es : List Expr} {as : List Am} (h : JA X cl W es as) (tk : Takes X W) : PA X es (tAs X.K cl W as) := by
  induction h with
  | nil => exact pa_nil
  | cons h1 h2 _ ih => exact pa_cons (h1.pe tk) ih h2
theorem ja_c {e : Expr} {es : List Expr} {a : Am} {as : List Am} (h : JO X cl W e a) (q : JA X cl W es as) (hs : starEach (e :: es) X.env = (false, eval e X.env) :: starEach es X.env := by rfl) : JA X cl W (e :: es) (a :: as) := .cons h hs q
theorem ja_n : JA X cl W [] [] := .nil
/-- a built-in's call by its name -/
theorem je_callB {id : String} {x : Str} {e : Expr} {es : List Expr} {r : List V → Hp → VK → Prop} {as : List Am} {p pos : Pos} {f : List Dt → Option Vl} (hc : CallR X (.builtin id) r) (hp : Pr X.K r f) (hg : Gl X x) (hm : X.mg x = none) (hv : bootBuiltins x = some (.builtin id))
    (ha : JA X cl W (e :: es) as) (hn : x ≠ "__name__" := by decide) (hdb : (x == ("__debug__" : Str)) = false := by decide) (he : starEach (e :: es) X.env = (false, eval e X.env) :: starEach es X.env := by rfl) (hpl : (backTo pos (starEach es X.env)).any (·.1) = false := by rfl) :
    JE X cl W (.Call (.Name x p) (e :: es) [] pos) (mP f as) := fun tk => (pe_callB hc hg hm hv (ha.pa tk) hn hdb he hpl).yimp fun _ _ _ q => mP_ok hp q
theorem je_callT {id : String} {x : Str} {e : Expr} {es : List Expr} {r : List V → Hp → VK → Prop} {as : List Am} {p pos : Pos} {f : List Dt → Option Vl} (hc : CallR X (.type id) r) (hp : Pr X.K r f) (hg : Gl X x) (hm : X.mg x = none) (hv : bootBuiltins x = some (.type id))
    (ha : JA X cl W (e :: es) as) (hn : x ≠ "__name__" := by decide) (hdb : (x == ("__debug__" : Str)) = false := by decide) (he : starEach (e :: es) X.env = (false, eval e X.env) :: starEach es X.env := by rfl) (hpl : (backTo pos (starEach es X.env)).any (·.1) = false := by rfl) :
    JE X cl W (.Call (.Name x p) (e :: es) [] pos) (mP f as) := fun tk => (pe_callTy hc hg hm hv (ha.pa tk) hn hdb he hpl).yimp fun _ _ _ q => mP_ok hp q
/-- tuples and lists written out -/
def rDisp (k : List V → HO) : List V → Hp → VK → Prop := fun vs H Q => vs.length ≤ sizeLine ∧ ∀ p, H p = none → Q (.ref p) (upd H p (k vs))
def LIM : Nat := 1000000
def fTup : List Dt → Option Vl := fun xs => if xs.length ≤ LIM then some (.t xs, .c) else none
def fLst : List Dt → Option Vl := fun xs => if xs.length ≤ LIM then some (.l xs, .t) else none
theorem lim_size {n : Nat} (h : n ≤ LIM) : n ≤ sizeLine := Nat.le_trans h (by decide)
theorem CoL.len {M : Addr → Prop} : ∀ {vs : List V} {xs : List Dt}, CoL K M H vs xs → vs.length = xs.length
  | _, _, .nil => rfl
  | _, _, .cons _ q => congrArg (· + 1) (CoL.len q)
theorem fm_new {M : Addr → Prop} (ht : Hotty M H) {p : Addr} {o : HO} (hp : H p = none) : Fm M H (fun b => M b ∨ b ∈ [p]) (upd H p o) :=
  ⟨fun b o e _ => by rw [upd_ne (ne_of_none e hp)]; exact e, fun b z => by
    exact z.elim .inl fun z => .inr (by rw [List.mem_singleton.mp z]; exact hp), ht⟩
theorem fm_new0 {M : Addr → Prop} (ht : Hotty M H) {p : Addr} {o : HO} (hp : H p = none) : Fm M H (fun b => M b ∨ b ∈ ([] : List Addr)) (upd H p o) :=
  ⟨fun b o e _ => by rw [upd_ne (ne_of_none e hp)]; exact e, fun b z => by
    exact z.elim .inl fun z => (nomatch z), ht⟩
theorem same_new {p : Addr} {o : HO} (hp : H p = none) : ∀ b u, H b = some u → upd H p o b = some u := fun b u e => by rw [upd_ne (ne_of_none e hp)]; exact e
/-- a new tuple | a new list of these -/
theorem mk_tup {M : Addr → Prop} (ht : Hotty M H) {p : Addr} {vs : List V} {xs : List Dt} (hp : H p = none) (c : CoL K M H vs xs) : Mk K H M (.ref p) (.t xs) .c (upd H p (.tup vs)) [] :=
  ⟨same_new hp, fun _ z => (nomatch z), List.nodup_nil, .t (.inl (.inl upd_same)) (c.fm (fm_new0 ht hp)), rfl⟩
theorem mk_lst {M : Addr → Prop} (ht : Hotty M H) {p : Addr} {vs : List V} {xs : List Dt} (hp : H p = none) (c : CoL K M H vs xs) : Mk K H M (.ref p) (.l xs) .t (upd H p (.lst vs)) [p] :=
  ⟨same_new hp, fun b z => by rw [List.mem_singleton.mp z]; exact hp, by simp, p, vs, xs, rfl, rfl, rfl, upd_same, c.fm (fm_new ht hp)⟩
theorem pr_tup : Pr K (rDisp .tup) fTup := fun M H vs xs x m Q ht c hf k => by
  simp only [fTup] at hf
  split at hf
  · rename_i h
    cases hf
    exact ⟨by rw [c.len]; exact lim_size h, fun p hp => k _ _ _ (mk_tup ht hp c)⟩
  · cases hf
theorem pr_lst : Pr K (rDisp .lst) fLst := fun M H vs xs x m Q ht c hf k => by
  simp only [fLst] at hf
  split at hf
  · rename_i h
    cases hf
    exact ⟨by rw [c.len]; exact lim_size h, fun p hp => k _ _ _ (mk_lst ht hp c)⟩
  · cases hf
theorem je_tup {es : List Expr} {as : List Am} {x1} {pos : Pos} (h : JA X cl W es as) : JE X cl W (.Tuple es x1 pos) (mP fTup as) := fun tk => (pe_tup (h.pa tk)).yimp fun _ _ _ q => mP_ok pr_tup q
theorem je_lst {es : List Expr} {as : List Am} {pos : Pos} (h : JA X cl W es as) : JE X cl W (.List es pos) (mP fLst as) := fun tk => (pe_lst (h.pa tk)).yimp fun _ _ _ q => mP_ok pr_lst q
def mTe (f : Ev → Ou Vl) : Ev → Ou Bool := fun r => match f r with
  | .ok (.b k, _) r' => .ok k r'
  | .ok _ _ => .no
  | .ex c fs r' => .ex c fs r'
  | .no => .no
theorem tI_te {f : Ev → Ou Vl} {Q : Bool → Hp → Prop} (h : tIB K cl W (mTe f) σ H Q) : tI K cl W f σ H fun v H' => ∃ k, v = .bl k ∧ Q k H' := by
  obtain ⟨r, M, G, e, h⟩ := h
  refine ⟨r, M, G, e, ?_⟩
  simp only [mTe] at h
  cases hf : f r with
  | no => rw [hf] at h; exact h
  | ex c fs r' => rw [hf] at h; exact h
  | ok xm r' =>
    obtain ⟨x, m⟩ := xm
    rw [hf] at h
    intro v H' M' G' F p
    cases x with
    | b k =>
      simp only at h
      obtain ⟨M2, e2, v2, c2⟩ := p.giveUp e.hot
      cases c2
      exact ⟨k, rfl, h H' M2 G' e2 v2⟩
    | _ => exact h.elim
theorem jt_val {e : Expr} {f : Ev → Ou Vl} (h : JE X cl W e f) (he : ∀ whole, isTrue e X.env whole = (do let v ← whole; standAt e.pos; holding [v] (truthy v)) := by intro _; rfl) : JT X cl W e (mTe f) := fun tk =>
  (pt_val (h tk) he).yimp fun _ _ _ q => tI_te q
theorem jt_cmp {a b : Expr} {op : CmpOp} {r : R2} {A B : Am} {pos : Pos} {f : List Dt → Option Vl} (ho : OpR X (compareOp op) r) (hm : behindInMarks op b = false) (hp : Pr X.K (ap2 r) f) (ha : JO X cl W a A) (hb : JO X cl W b B) :
    JT X cl W (.Compare a [op] [b] pos) (mTe (mP f [A, B])) := fun tk => (pt_cmpR ho (ha.pe tk) (hb.pe tk) hm).yimp fun _ _ _ q => mP_ok hp (tI_te q)
def mNot (f : Ev → Ou Bool) : Ev → Ou Bool := fun r => match f r with
  | .ok k r' => .ok (!k) r'
  | .ex c fs r' => .ex c fs r'
  | .no => .no
theorem jt_not {a : Expr} {f : Ev → Ou Bool} {pos : Pos} (h : JT X cl W a f) : JT X cl W (.UnaryOp .Not a pos) (mNot f) := fun tk => (pt_not (h tk)).yimp fun σ H Q ⟨r, M, G, e, q⟩ => by
  refine ⟨r, M, G, e, ?_⟩
  simp only [mNot] at q
  cases hf : f r with
  | no => rw [hf] at q; exact q
  | ex c fs r' => rw [hf] at q; exact q
  | ok k r' => rw [hf] at q; exact q
/-- one behind the other -/
def mAnd (f g : Ev → Ou Bool) : Ev → Ou Bool := fun r => match f r with
  | .ok true r' => g r'
  | .ok false r' => .ok false r'
  | .ex c fs r' => .ex c fs r'
  | .no => .no
def mOr (f g : Ev → Ou Bool) : Ev → Ou Bool := fun r => match f r with
  | .ok true r' => .ok true r'
  | .ok false r' => g r'
  | .ex c fs r' => .ex c fs r'
  | .no => .no
def JW (X : Cx) (cl : Str → Addr) (W : WX) (e : Expr) (f : Ev → Ou Bool) : Prop := Takes X W → PW X e (tIB X.K cl W f)
theorem _root_.L2.PW.yimp {X : Cx} {e : Expr} {t t' : TT} (h : PW X e t) (k : ∀ σ H Q, t' σ H Q → t σ H Q) : PW X e t' := ⟨fun wh pins s σ H Q I q => h.run wh pins s σ H Q I (k σ H Q q)⟩
theorem tIB_later {M M0 : Addr → Prop} {G G0 : Nat → List Addr} {H0 : Hp} {r : Ev} {g : Ev → Ou Bool} {Q : Bool → Hp → Prop} (ht : Hotty M0 H0) (e : ER K r σ G M H) (v : Evo H0 M0 G0 H M G [])
    (q : match g r with
      | .ok b r' => ∀ H' M' G', ER K r' σ G' M' H' → Evo H0 M0 G0 H' M' G' [] → Q b H'
      | .ex c fs r' => ∀ d H' M' G', XX K r' σ H0 M0 G0 fs d H' M' G' → W (.ref (cl c)) d σ H'
      | .no => False) : tIB K cl W g σ H Q := by
  refine ⟨r, M, G, e, ?_⟩
  cases hg : g r with
  | no => rw [hg] at q; exact q
  | ex c fs r' =>
    rw [hg] at q
    exact fun d H' M' G' p => q d H' M' G' ⟨p.er, v.trans ht p.ev, p.xd⟩
  | ok k r' =>
    rw [hg] at q
    exact fun H' M' G' e' v' => q H' M' G' e' (v.trans ht v')
theorem tIB_and {f g : Ev → Ou Bool} {Q : Bool → Hp → Prop} (h : tIB K cl W (mAnd f g) σ H Q) : tAnd (tIB K cl W f) (tIB K cl W g) σ H Q := by
  obtain ⟨r, M, G, e, q⟩ := h
  refine ⟨r, M, G, e, ?_⟩
  simp only [mAnd] at q
  cases hf : f r with
  | no => rw [hf] at q; exact q
  | ex c fs r' => rw [hf] at q; exact q
  | ok k r' =>
    rw [hf] at q
    intro H' M' G' e' v'
    cases k with
    | true => rw [if_pos rfl]; exact tIB_later e.hot e' v' q
    | false => rw [if_neg Bool.false_ne_true]; exact q H' M' G' e' v'
theorem tIB_or {f g : Ev → Ou Bool} {Q : Bool → Hp → Prop} (h : tIB K cl W (mOr f g) σ H Q) : tOr (tIB K cl W f) (tIB K cl W g) σ H Q := by
  obtain ⟨r, M, G, e, q⟩ := h
  refine ⟨r, M, G, e, ?_⟩
  simp only [mOr] at q
  cases hf : f r with
  | no => rw [hf] at q; exact q
  | ex c fs r' => rw [hf] at q; exact q
  | ok k r' =>
    rw [hf] at q
    intro H' M' G' e' v'
    cases k with
    | true => rw [if_pos rfl]; exact q H' M' G' e' v'
    | false => rw [if_neg Bool.false_ne_true]; exact tIB_later e.hot e' v' q
theorem jw_and1 {a : Expr} {f : Ev → Ou Bool} {pos : Pos} (h : JT X cl W a f) : JW X cl W (.BoolOp .And [a] pos) f := fun tk => pw_and1 (h tk)
theorem jw_or1 {a : Expr} {f : Ev → Ou Bool} {pos : Pos} (h : JT X cl W a f) : JW X cl W (.BoolOp .Or [a] pos) f := fun tk => pw_or1 (h tk)
theorem jw_and {a b : Expr} {rest : List Expr} {f g : Ev → Ou Bool} {pos : Pos} (h : JT X cl W a f) (q : JW X cl W (.BoolOp .And (b :: rest) pos) g) : JW X cl W (.BoolOp .And (a :: b :: rest) pos) (mAnd f g) := fun tk =>
  (pw_and (h tk) (q tk)).yimp fun _ _ _ z => tIB_and z
theorem jw_or {a b : Expr} {rest : List Expr} {f g : Ev → Ou Bool} {pos : Pos} (h : JT X cl W a f) (q : JW X cl W (.BoolOp .Or (b :: rest) pos) g) : JW X cl W (.BoolOp .Or (a :: b :: rest) pos) (mOr f g) := fun tk =>
  (pw_or (h tk) (q tk)).yimp fun _ _ _ z => tIB_or z
theorem jt_w {e : Expr} {f : Ev → Ou Bool} (h : JW X cl W e f) : JT X cl W e f := fun tk => (h tk).pt
theorem tI_later {M M0 : Addr → Prop} {G G0 : Nat → List Addr} {H0 : Hp} {r : Ev} {g : Ev → Ou Vl} {Q : VK} (ht : Hotty M0 H0) (e : ER K r σ G M H) (v : Evo H0 M0 G0 H M G [])
    (q : match g r with
      | .ok (x, m) r' => ∀ v H' M' G' F, PX K r' σ H0 M0 G0 v x m H' M' G' F → Q v H'
      | .ex c fs r' => ∀ d H' M' G', XX K r' σ H0 M0 G0 fs d H' M' G' → W (.ref (cl c)) d σ H'
      | .no => False) : tI K cl W g σ H Q := by
  refine ⟨r, M, G, e, ?_⟩
  cases hg : g r with
  | no => rw [hg] at q; exact q
  | ex c fs r' =>
    rw [hg] at q
    exact fun d H' M' G' p => q d H' M' G' ⟨p.er, v.trans ht p.ev, p.xd⟩
  | ok xm r' =>
    obtain ⟨x, m⟩ := xm
    rw [hg] at q
    exact fun w H' M' G' F p => q w H' M' G' F ⟨p.er, v.trans ht p.ev, p.rp, p.nd, p.hot⟩
def mIf (c : Ev → Ou Bool) (f g : Ev → Ou Vl) : Ev → Ou Vl := fun r => match c r with
  | .ok true r' => f r'
  | .ok false r' => g r'
  | .ex c fs r' => .ex c fs r'
  | .no => .no
theorem je_if {c a b : Expr} {fc : Ev → Ou Bool} {f g : Ev → Ou Vl} {pos : Pos} (hc : JT X cl W c fc) (ha : JE X cl W a f) (hb : JE X cl W b g) : JE X cl W (.IfExp c a b pos) (mIf fc f g) := fun tk =>
  (pe_ifExp (hc tk) (ha tk) (hb tk)).yimp fun σ H Q ⟨r, M, G, e, q⟩ => by
    refine ⟨r, M, G, e, ?_⟩
    simp only [mIf] at q
    cases hf : fc r with
    | no => rw [hf] at q; exact q
    | ex c fs r' => rw [hf] at q; exact q
    | ok k r' =>
      rw [hf] at q
      intro H' M' G' e' v'
      cases k with
      | true => rw [if_pos rfl]; exact tI_later e.hot e' v' q
      | false => rw [if_neg Bool.false_ne_true]; exact tI_later e.hot e' v' q
def mAndV (f g : Ev → Ou Vl) : Ev → Ou Vl := fun r => match f r with
  | .ok (.b true, _) r' => g r'
  | .ok (.b false, _) r' => .ok (.b false, .c) r'
  | .ok _ _ => .no
  | .ex c fs r' => .ex c fs r'
  | .no => .no
def mOrV (f g : Ev → Ou Vl) : Ev → Ou Vl := fun r => match f r with
  | .ok (.b true, _) r' => .ok (.b true, .c) r'
  | .ok (.b false, _) r' => g r'
  | .ok _ _ => .no
  | .ex c fs r' => .ex c fs r'
  | .no => .no
def mNotV (f : Ev → Ou Vl) : Ev → Ou Vl := fun r => match f r with
  | .ok (.b k, _) r' => .ok (.b (!k), .c) r'
  | .ok _ _ => .no
  | .ex c fs r' => .ex c fs r'
  | .no => .no
theorem px_bl {r : Ev} {H0 : Hp} {M M0 : Addr → Prop} {G G0 : Nat → List Addr} (k : Bool) (e : ER K r σ G M H) (v : Evo H0 M0 G0 H M G []) : PX K r σ H0 M0 G0 (.bl k) (.b k) .c H M G [] :=
  ⟨e, v, ⟨.b k, rfl⟩, List.nodup_nil, fun _ z => nomatch z⟩
theorem je_and {a b : Expr} {rest : List Expr} {f g : Ev → Ou Vl} {pos : Pos} (ha : JE X cl W a f) (hb : JE X cl W (.BoolOp .And (b :: rest) pos) g) : JE X cl W (.BoolOp .And (a :: b :: rest) pos) (mAndV f g) := fun tk =>
  (pe_and (ha tk) (hb tk)).yimp fun σ H Q ⟨r, M, G, e, q⟩ => by
    refine ⟨r, M, G, e, ?_⟩
    simp only [mAndV] at q
    cases hf : f r with
    | no => rw [hf] at q; exact q
    | ex c fs r' => rw [hf] at q; exact q
    | ok xm r' =>
      obtain ⟨x, m⟩ := xm
      rw [hf] at q
      intro v H' M' G' F p
      cases x with
      | b k =>
        obtain ⟨M2, e2, v2, c2⟩ := p.giveUp e.hot
        cases c2
        refine ⟨k, rfl, ?_⟩
        cases k with
        | true => rw [if_pos rfl]; exact tI_later e.hot e2 v2 q
        | false => rw [if_neg Bool.false_ne_true]; exact q _ _ _ _ _ (px_bl false e2 v2)
      | _ => exact q.elim
theorem je_or {a b : Expr} {rest : List Expr} {f g : Ev → Ou Vl} {pos : Pos} (ha : JE X cl W a f) (hb : JE X cl W (.BoolOp .Or (b :: rest) pos) g) : JE X cl W (.BoolOp .Or (a :: b :: rest) pos) (mOrV f g) := fun tk =>
  (pe_or (ha tk) (hb tk)).yimp fun σ H Q ⟨r, M, G, e, q⟩ => by
    refine ⟨r, M, G, e, ?_⟩
    simp only [mOrV] at q
    cases hf : f r with
    | no => rw [hf] at q; exact q
    | ex c fs r' => rw [hf] at q; exact q
    | ok xm r' =>
      obtain ⟨x, m⟩ := xm
      rw [hf] at q
      intro v H' M' G' F p
      cases x with
      | b k =>
        obtain ⟨M2, e2, v2, c2⟩ := p.giveUp e.hot
        cases c2
        refine ⟨k, rfl, ?_⟩
        cases k with
        | true => rw [if_pos rfl]; exact q _ _ _ _ _ (px_bl true e2 v2)
        | false => rw [if_neg Bool.false_ne_true]; exact tI_later e.hot e2 v2 q
      | _ => exact q.elim
theorem je_one {a : Expr} {op : BoolOp} {f : Ev → Ou Vl} {pos : Pos} (ha : JE X cl W a f) : JE X cl W (.BoolOp op [a] pos) f := fun tk => pe_one (ha tk)
theorem je_not {a : Expr} {f : Ev → Ou Vl} {pos : Pos} (ha : JE X cl W a f) : JE X cl W (.UnaryOp .Not a pos) (mNotV f) := fun tk =>
  (pe_not (ha tk)).yimp fun σ H Q ⟨r, M, G, e, q⟩ => by
    refine ⟨r, M, G, e, ?_⟩
    simp only [mNotV] at q
    cases hf : f r with
    | no => rw [hf] at q; exact q
    | ex c fs r' => rw [hf] at q; exact q
    | ok xm r' =>
      obtain ⟨x, m⟩ := xm
      rw [hf] at q
      intro v H' M' G' F p
      cases x with
      | b k =>
        obtain ⟨M2, e2, v2, c2⟩ := p.giveUp e.hot
        cases c2
        exact ⟨k, rfl, q _ _ _ _ _ (px_bl _ e2 v2)⟩
      | _ => exact q.elim
end
end Y
namespace Y
open PySem L2 PyProof.Rows
structure Room (k : Nat) (A : Around) : Prop extends L2.Room k A where
  gd : A.guards = some []
theorem Room.mono {j k : Nat} {A : Around} (r : Room k A) (h : j ≤ k) : Room j A := ⟨r.toRoom.mono h, r.gd⟩
theorem Room.deeper {k : Nat} {A : Around} (r : Room (k + 1) A) (env : Env) : Room k (A.deeper env) := ⟨r.toRoom.deeper env, r.gd⟩
structure FnOk (P : Program) (w : World) (K : PySem.W.Frag) (mg : Str → Option Value) (base : Heap) (CX : CXT) (k : Nat) (f : Addr) (fd : FuncData) (ps : List Str) (sp : Sp) : Prop where
  len : ∀ as Hs Qs Es, sp as Hs Qs Es → as.length = ps.length
  run : ∀ (B : Around) (out : List Env) (st : Shared) (Hs : Hp) (ar : Args) (vals : List Value) (as : List V) (Qs : VK) (Es : XK), Room k B → Env0 P w K mg base B out st Hs → BindsTo st fd ar (ps.zip vals) → Vals as vals → sp as Hs Qs Es →
    codeAny (model P w) B (.call (.ref f) ar) (CR CX out P w Hs st Qs Es) st
section
variable {X : Cx} {CX : CXT} {k : Nat} {f : Addr} {fd : FuncData} {ps : List Str} {sp : Sp} {E : L2.St → XK} {x : Str} {p pos : Pos} {e : Expr} {es : List Expr} {t : TA}
/-- how a call's end is met by who called -/
theorem meets {pins : List (Addr × Obj)} {σ : L2.St} {H : Hp} {s s' : Shared} {Q : VK} {E : XK} {fl : Result} (I : Inv X pins σ H s) (hx : PassesAt CX X σ E) (h : CR CX X.stack X.prog X.w H s Q E fl s') :
    match fl with
    | .ok (.ret u) => EP X pins σ Q u s'
    | .ok _ => False
    | .error v => X.xe v s' := by
  match fl with
  | .error v => exact hx pins H s v s' I h
  | .ok (.ret u) => exact I.after h
  | .ok .next => exact (h : False)
  | .ok .brk => exact (h : False)
  | .ok .cont => exact (h : False)
theorem run_any {pins : List (Addr × Obj)} {σ : L2.St} {H : Hp} {s : Shared} {Q : VK} {E : XK} {ar : Args} {vals : List Value} {as : List V} (F : FnOk X.prog X.w X.K X.mg X.base CX k f fd ps sp) (hr : Room k X.A) (hx : PassesAt CX X σ E) (I : Inv X pins σ H s) (hb : BindsTo s fd ar (ps.zip vals)) (rv : Vals as vals) (h : sp as H Q E) :
    wpAny (model X.prog X.w) X.A (PySem.call (.ref f) ar.pos ar.kw) (EP X pins σ Q) X.xe s := by
  refine wpAny_call (codeAny_mono (F.run X.A X.stack s H ar vals as Q E hr I.env0 hb rv h) fun fl s' hq => ?_)
  have := meets I hx hq
  revert this
  match fl with
  | .error v => exact id
  | .ok (.ret u) => exact id
  | .ok .next => exact False.elim
  | .ok .brk => exact False.elim
  | .ok .cont => exact False.elim
theorem run_fnS {pins : List (Addr × Obj)} {σ : L2.St} {H : Hp} {s : Shared} {Q : VK} {us : List Value} {vs : List V} (F : FnOk X.prog X.w X.K X.mg X.base CX k f fd ps sp) (hr : Room k X.A) (hb : Binds X.K fd ps []) (hx : PassesAt CX X σ (E σ)) (I : Inv X pins σ H s) (rv : Vals vs us) (h : sp vs H Q (E σ)) :
    wpAny (model X.prog X.w) X.A (PySem.call (.ref f) us) (EP X pins σ Q) X.xe s := by
  have b := hb s us I.kIn (by rw [List.append_nil, ← rv.length]; exact F.len _ _ _ _ h)
  rw [List.append_nil] at b
  exact run_any (ar := ⟨us, []⟩) F hr hx I b rv h
theorem pe_callS (F : FnOk X.prog X.w X.K X.mg X.base CX k f fd ps sp) (hr : Room k X.A) (hg : Gl X x) (hm : X.mg x = some (.ref f)) (hk : PySem.W.keepIn X.K (.ref f) = true) (hb : Binds X.K fd ps []) (hx : ∀ σ, PassesAt CX X σ (E σ)) (ha : PA X (e :: es) t)
    (hdb : (x == ("__debug__" : Str)) = false := by decide) (he : starEach (e :: es) X.env = (false, eval e X.env) :: starEach es X.env := by rfl) (hpl : (backTo pos (starEach es X.env)).any (·.1) = false := by rfl) : PE X (.Call (.Name x p) (e :: es) [] pos) (tCallS sp E t) :=
  ⟨fun pins s σ H Q I h => wpAny_Call_Name_kw (ld_glob I hg hm (PySem.W.callWith_K (h₀ := X.base) I.ok.mod.kin hk (thn (ha.run pos pins s σ H _ I h) fun us s1 ⟨vs, H1, I1, r, q⟩ => ⟨I1.kIn, run_fnS F hr hb (hx σ) I1 r q⟩) he hpl) hdb)⟩
end
section
variable {P : Program} {w : World} {K : PySem.W.Frag} {mg : Str → Option Value} {base : Heap}
/-- a def by its body -/
theorem fn_by {CX : CXT} {k : Nat} {f : Addr} {name qual : Str} {params : Arguments} {body : List Stmt} {scope : Scope} {dV kV doc pm cdv ct oc : Value} {an od : Option Addr} {osl : Array (Option Value)} {N ps : List Str} {sp : Sp}
    (lk : K.lookup f = some ⟨oc, od, .func (PySem.W.fnOf name qual params body scope dV kV doc pm an cdv ct), osl⟩) (hcd : PySem.W.codeIn K cdv qual = true) (S : FnScope N ps scope) (len : ∀ as Hs Qs Es, sp as Hs Qs Es → as.length = ps.length)
    (go : ∀ (B : Around) (out : List Env) (st : Shared) (Hs : Hp) (as : List V) (Qs : VK) (Es : XK), Room k (B.deeper (envOfC qual scope st.heap.objs.size f cdv)) → sp as Hs Qs Es →
      ∃ t, PSs (cxOf CX P w K mg base N qual scope f cdv B out st Hs Es) body t ∧ t { nx := fun _ H' => Qs .non H', rt := Qs } (start N as) Hs) :
    FnOk P w K mg base CX (k + 1) f (PySem.W.fnOf name qual params body scope dV kV doc pm an cdv ct) ps sp where
  len := len
  run := by
    intro B out st Hs ar vals as Qs Es rm ev bd rv hsp
    have hl := len _ _ _ _ hsp
    have KX : K.In st.heap := ev.mod.kin.keeps fun b o q => (ev.bs b o q).1
    have lim : st.heap.NoLimit := ev.mod.nolimit.keeps fun b o q => (ev.bs b o q).1
    have kinds : ∀ y ∈ ps.zip vals, scope.names.lookup y.1 = some .local ∨ (scope.names.lookup y.1 = some .cell ∧ ((cellsFrom (st.heap.objs.size + 1) scope.names []).lookup y.1).isSome = true) := by
      rintro ⟨n, v⟩ hy
      exact (S.par n (List.of_mem_zip hy).1).elim .inl fun q => .inr ⟨q, PySem.W.cellsFrom_some _ _ _ (.inl q)⟩
    refine codeAny_call_function rm.depth (KX _ _ lk) rfl S.co S.gen rfl (PySem.W.codeRec_of KX hcd) (bd _ _ _ _ (wpAny_newFunctionEnv_cells S.kind kinds fun env he s1 ic => ?_))
    subst he
    refine ⟨lim.keeps ic.toInCall.keep, codeAny_func ?_⟩
    obtain ⟨t, ht, hq⟩ := go B out st Hs as Qs Es (rm.deeper _) hsp
    have I := inv_start (CX := CX) (E := Es) S rm.hd ev hl rv ic
    have fin : ∀ {σ' : L2.St} {H' : Hp} {s' : Shared} {v : V} {u : Value}, Inv (cxOf CX P w K mg base N qual scope f cdv B out st Hs Es) [] σ' H' s' → RelV v u → Qs v H' → CE out P w Hs st Qs u s' := by
      intro σ' H' s' v u J rv q
      exact ⟨v, H', J.os, J.bare, J.base, J.hok, rv, q⟩
    refine wpAny_mono (ht.run [] s1 (start N as) Hs _ I hq) (fun fl s' hs => ?_) fun _ _ z => z
    match fl, hs with
    | .ret u, ⟨v, _, _, J, r, q⟩ => exact fin J r q
    | .next, ⟨_, _, J, q⟩ => exact fin (v := V.non) (u := Value.none) J rfl q
    | .brk, ⟨_, _, _, q⟩ => exact q.elim
    | .cont, ⟨_, _, _, q⟩ => exact q.elim
theorem fn_okX {x qual : Str} {st : Stmt} {f : Addr} {fd : FuncData} {N ps : List Str} {k : Nat} {sp : Sp} (F : Fun K x qual st f fd) (S : FnScope N ps (defScope st)) (len : ∀ as Hs Qs Es, sp as Hs Qs Es → as.length = ps.length)
    (go : ∀ (cdv : Value) (B : Around) (out : List Env) (s : Shared) (Hs : Hp) (as : List V) (Qs : VK) (Es : XK), Room k (B.deeper (envOfC qual (defScope st) s.heap.objs.size f cdv)) → sp as Hs Qs Es →
      ∃ t, PSs (cxOf (L2.CX P w) P w K mg base N qual (defScope st) f cdv B out s Hs Es) (defBody st) t ∧ t { nx := fun _ H' => Qs .non H', rt := Qs } (start N as) Hs) : FnOk P w K mg base (L2.CX P w) (k + 1) f fd ps sp := by
  obtain ⟨_, _, _, _, _, _, cdv, _, _, rfl, lk, hcd⟩ := F.ex
  exact fn_by lk hcd S len fun B out s Hs as Qs Es rm hsp => go cdv B out s Hs as Qs Es rm hsp
end
end Y
namespace Y
open PySem L2
/-- a def on data: what it hands back, and what its first argument is then (where it may change it) -/
inductive Fo where
  | rt (x : Vl) (z : Vl) | ex (c : Str) (fs : List (Str × Dt)) (z : Vl) | no
abbrev Fn := List Vl → Fo
def ioE : Bool → Vl → Ev
  | true, z => [some z]
  | false, _ => []
def ioS : Bool → List V → L2.St
  | true, vs => (vs.map some).take 1
  | false, _ => []
def spY (K : PySem.W.Frag) (cl : Str → Addr) (io : Bool) (n : Nat) (f : Fn) : Sp := fun vs H Q E => vs.length = n ∧ ∃ (xs : List Vl) (M : Addr → Prop) (G : Nat → List Addr), ER K (xs.map some) (vs.map some) G M H ∧ (∀ i, (io = true → i ≠ 0) → G i = []) ∧
  match f xs with
  | .rt (x, m) z => ∀ v H' M' G' F, PX K (ioE io z) (ioS io vs) H M G v x m H' M' G' F → Q v H'
  | .ex c fs z => ∀ d H' M' G', XX K (ioE io z) (ioS io vs) H M G fs d H' M' G' → E (.ref (cl c)) d H'
  | .no => False
def cold (xs : List Dt) : List Vl := xs.map fun x => (x, .c)
def flatF (fs : List (Str × Dt)) : Bool := flatL (fs.map (·.2))
section
variable {K : PySem.W.Frag} {cl : Str → Addr} {W : WX} {M M' : Addr → Prop} {H H' : Hp} {G G' : Nat → List Addr} {r r' : Ev} {σ : L2.St}
theorem CoL.get : ∀ {vs : List V} {xs : List Dt} {i : Nat} {x : Dt}, CoL K M H vs xs → xs[i]? = some x → ∃ v, vs[i]? = some v ∧ Co K M H v x
  | _, _, _, _, .nil, e => by simp at e
  | _, _, 0, _, .cons h _, e => by simp at e; subst e; exact ⟨_, rfl, h⟩
  | _, _, i + 1, x, .cons _ q, e => by
    obtain ⟨v, h1, h2⟩ := CoL.get (i := i) (x := x) q (by simpa using e)
    exact ⟨v, by simpa using h1, h2⟩
theorem ER.ofCold {vs : List V} {xs : List Dt} (ht : Hotty M H) (tb : TabsK K H) (c : CoL K M H vs xs) : ER K ((cold xs).map some) (vs.map some) (fun _ => []) M H := by
  refine ⟨by simp [cold, c.len], fun i x m h => ?_, fun _ _ => rfl, fun _ => List.nodup_nil, fun _ _ _ _ h => (nomatch h), fun _ _ h => (nomatch h), ht, tb⟩
  simp only [cold, List.map_map, List.getElem?_map, Option.map_eq_some_iff] at h
  obtain ⟨y, h1, h2⟩ := h
  simp only [Function.comp] at h2
  cases h2
  obtain ⟨v, h3, h4⟩ := c.get h1
  exact ⟨v, by simp [h3], h4, rfl⟩
/-- one more in front -/
theorem ER.cons {vs : List V} {xs : List Dt} {v0 : V} {x0 : Dt} {m0 : Md} {F0 : List Addr} (ht : Hotty M H) (tb : TabsK K H) (c : CoL K M H vs xs) (h : Rp K M H m0 v0 x0 F0) (nd : F0.Nodup) (k : ∀ b ∈ F0, M b) :
    ER K (((x0, m0) :: cold xs).map some) ((v0 :: vs).map some) (fun i => if i = 0 then F0 else []) M H := by
  have e := ER.ofCold ht tb c
  refine ⟨by simpa using e.len, fun i x m hi => ?_, fun i hi => ?_, fun i => ?_, fun i j hne b hb => ?_, fun i b hb => ?_, ht, tb⟩
  · cases i with
    | zero =>
      simp at hi
      obtain ⟨rfl, rfl⟩ := hi
      exact ⟨v0, by simp, by simpa using h⟩
    | succ i =>
      obtain ⟨v, h1, h2⟩ := e.at_ i x m (by simpa using hi)
      exact ⟨v, by simpa using h1, by simpa using h2⟩
  · cases i with
    | zero => exact absurd (by simp) (hi x0 m0)
    | succ i => simp
  · cases i with
    | zero => simpa using nd
    | succ i => simp
  · cases i with
    | zero => cases j with
      | zero => exact absurd rfl hne
      | succ j => simp
    | succ i => simp at hb
  · cases i with
    | zero => exact k b (by simpa using hb)
    | succ i => simp at hb
theorem Rp.flatAny {m : Md} {v : V} {x : Dt} {F : List Addr} (h : Rp K M H m v x F) (hx : x.flat = true) : Rp K M' H m v x F := by
  cases m with
  | c => exact ⟨(h.1.ho hx).cold fun b z => (nomatch z), h.2⟩
  | t =>
    obtain ⟨a, vs, xs, rfl, rfl, _⟩ := h
    simp [Dt.flat] at hx
  | a => exact h
theorem CoL.flatAny {vs : List V} {xs : List Dt} (h : CoL K M H vs xs) (hx : flatL xs = true) : CoL K M' H vs xs := (h.ho hx).cold fun b z => (nomatch z)
theorem XdOk.flatAny {d : Option Addr} {fs : List (Str × Dt)} (h : XdOk K M H d fs) (hx : flatF fs = true) : XdOk K M' H d fs := by
  cases fs with
  | nil => exact h
  | cons f fs =>
    obtain ⟨dx, vs, h1, h2, h3, h4⟩ := h
    exact ⟨dx, vs, h1, h2, h3, h4.flatAny hx⟩
/-- what is said of a callee's end with an environment besides: B the lists lent to it (cold there) -/
theorem after {B : List Addr} {M3 : Addr → Prop} {H2 : Hp} {Gc G3 : Nat → List Addr} {F : List Addr} (e : ER K r σ G M H) (ev : Evo H (fun b => M b ∧ b ∉ B) Gc H2 M3 G3 F) (ht3 : Hotty M3 H2) (tb3 : TabsK K H2)
    (dj : ∀ i b, b ∈ G i → ∀ j, b ∉ Gc j) (sub : ∀ j b, b ∈ Gc j → M b) (hB : ∀ b ∈ B, M b ∧ ∀ j, b ∉ Gc j) :
    ER K r σ G (fun b => M3 b ∨ b ∈ B) H2 ∧ ∀ b, b ∈ F → (∀ i, b ∉ G i) := by
  have gr : ∀ b, (M3 b ∨ b ∈ B) → M b ∨ H b = none := fun b z => by
    rcases z with z | z
    · rcases ev.grow b z with z | z
      · exact .inl z.1
      · exact .inr z
    · exact .inl (hB b z).1
  refine ⟨e.evoW tb3 (fun b o h k {nt} => ev.pres b o h (fun j hj => ?_) nt) gr (fun i b hb => ?_) fun b z => ?_, fun b hb i hi => ?_⟩
  · rcases k with k | ⟨i, k⟩
    · exact k (sub j b hj)
    · exact dj i b k j hj
  · by_cases q : b ∈ B
    · exact .inr q
    · exact .inl (ev.keep b ⟨e.sub i b hb, q⟩ (dj i b hb))
  · rcases z with z | z
    · exact ht3 b z
    · obtain ⟨xs, q, ho⟩ := e.hot b (hB b z).1
      exact ⟨xs, ev.pres b _ q (hB b z).2, ho⟩
  · obtain ⟨xs, q, _⟩ := e.hot b (e.sub i b hi)
    rcases ev.res b hb with ⟨j, z⟩ | z
    · exact dj i b hi j z
    · rw [q] at z; cases z
theorem owns_sub (e : ER K r σ G M H) {ys : List Ag} : ∀ b ∈ owns G ys, M b := fun b hb => let ⟨i, h⟩ := mem_owns hb; e.sub i b h
theorem AgL.len {us : List V} {zs : List Ag} (q : AgL K M H σ us zs) : us.length = zs.length := by
  induction q with
  | nil => rfl
  | d _ _ ih => simp [ih]
  | v _ _ ih => simp [ih]
theorem evA_len : ∀ (bs : List Am) {r r' : Ev} {zs : List Ag}, evA bs r = .ok zs r' → zs.length = bs.length := by
  intro bs
  induction bs with
  | nil => intro r r' zs q; simp [evA] at q; simp [← q.1]
  | cons b bs ih =>
    intro r r' zs q
    cases b with
    | e f =>
      simp only [evA] at q
      split at q
      · split at q
        · rename_i h; cases q; simp [ih h]
        · cases q
        · cases q
      · cases q
      · cases q
    | v i =>
      simp only [evA] at q
      split at q
      · split at q
        · rename_i h; cases q; simp [ih h]
        · cases q
        · cases q
      · cases q
theorem evA_v {i : Nat} {as : List Am} {r r' : Ev} {zs : List Ag} (q : evA (.v i :: as) r = .ok zs r') : ∃ ys, zs = .v i :: ys := by
  simp only [evA] at q
  split at q
  · split at q
    · cases q; exact ⟨_, rfl⟩
    · cases q
    · cases q
  · cases q
/-- nothing lent is held by it -/
def zfl : Vl → Bool
  | (x, .c) => x.flat
  | (.l xs, .t) => flatL xs
  | (x, .t) => x.flat
  | (_, .a) => true
theorem Rp.zfl {x : Dt} {m : Md} {v : V} {F : List Addr} (h : Rp K M H m v x F) (hz : zfl (x, m) = true) : Rp K M' H m v x F := by
  cases m with
  | c => exact h.flatAny (by simpa [Y.zfl] using hz)
  | t =>
    obtain ⟨a, vs, xs, h1, rfl, h2, h3, c⟩ := h
    exact ⟨a, vs, xs, h1, rfl, h2, h3, c.flatAny (by simpa [Y.zfl] using hz)⟩
  | a => exact h
/-- a call that changes no argument -/
def mC (fn : Fn) (as : List Am) : Ev → Ou Vl := fun r => match evA as r with
  | .ok ys r1 => match look r1 ys with
    | some xs => match fn (cold xs) with
      | .rt (x, m) _ => .ok (x, m) (if zfl (x, m) then r1 else frz ys r1)
      | .ex c fs _ => if flatF fs then .ex c fs r1 else .no
      | .no => .no
    | none => .no
  | .ex c fs r1 => .ex c fs r1
  | .no => .no
theorem evo_lent {B : List Addr} {M3 : Addr → Prop} {H2 : Hp} {G3 : Nat → List Addr} {F : List Addr} (hB : ∀ b ∈ B, M b ∧ ∃ i, b ∈ G i) (ev : Evo H (fun b => M b ∧ b ∉ B) (fun _ => []) H2 M3 G3 F) : Evo H M G H2 (fun b => M3 b ∨ b ∈ B) G F :=
  ⟨fun b o h _ => ev.pres b o h fun _ z => (nomatch z), ev.dom, fun b z => by
    rcases z with z | z
    · exact (ev.grow b z).imp And.left id
    · exact .inl (hB b z).1, fun b h hb => .inl (ev.keep b ⟨h, fun z => let ⟨i, q⟩ := (hB b z).2; hb i q⟩ fun _ z => (nomatch z)), fun i b h => .inl ⟨i, h⟩, fun b h => .inr ((ev.res b h).elim (fun ⟨_, z⟩ => (nomatch z)) id)⟩
theorem evo_lent2 {B : List Addr} {M3 : Addr → Prop} {H2 : Hp} {G2 G3 : Nat → List Addr} {F : List Addr} (hB : ∀ b ∈ B, M b ∧ ∃ i, b ∈ G i) (hG : ∀ i b, b ∈ G2 i → b ∈ G i) (ev : Evo H (fun b => M b ∧ b ∉ B) (fun _ => []) H2 M3 G3 F) : Evo H M G H2 M3 G2 F :=
  ⟨fun b o h _ => ev.pres b o h fun _ z => (nomatch z), ev.dom, fun b z => (ev.grow b z).imp And.left id, fun b h hb => ev.keep b ⟨h, fun z => let ⟨i, q⟩ := (hB b z).2; hb i q⟩ fun _ z => (nomatch z), fun i b h => .inl ⟨i, hG i b h⟩, fun b h => .inr ((ev.res b h).elim (fun ⟨_, z⟩ => (nomatch z)) id)⟩
theorem mC_ok {n : Nat} {fn : Fn} {as : List Am} {Q : VK} (hn : as.length = n) (h : tI K cl W (mC fn as) σ H Q) : tOs K cl W as σ H fun vs H1 => spY K cl false n fn vs H1 Q (WE W σ) := by
  obtain ⟨r, M, G, e, h⟩ := h
  refine tOs_ok as e ?_
  simp only [mC] at h
  cases ha : evA as r with
  | no => rw [ha] at h; exact h
  | ex c fs r1 => rw [ha] at h; exact h
  | ok ys r1 =>
    rw [ha] at h
    simp only at h
    intro vs H1 M1 G1 e1 v1 a1
    cases hl : look r1 ys with
    | none => rw [hl] at h; exact h.elim
    | some xs =>
      rw [hl] at h
      simp only at h
      have cc : CoL K (fun b => M1 b ∧ b ∉ owns G1 ys) H1 vs xs := look_cold e1 (fun b z => z.1) (fun b hb z => z.2 hb) a1 hl
      have ht1 : Hotty (fun b => M1 b ∧ b ∉ owns G1 ys) H1 := fun b z => e1.hot b z.1
      have hB : ∀ b ∈ owns G1 ys, M1 b ∧ ∃ i, b ∈ G1 i := fun b hb => ⟨owns_sub e1 b hb, mem_owns hb⟩
      have hlen : vs.length = n := by rw [← hn, a1.len, evA_len as ha]
      refine ⟨hlen, cold xs, _, fun _ => [], ER.ofCold ht1 e1.tab cc, fun _ _ => rfl, ?_⟩
      cases hf : fn (cold xs) with
      | no => rw [hf] at h; exact h
      | rt xm z =>
        obtain ⟨x, m⟩ := xm
        rw [hf] at h
        simp only at h
        intro v H2 M3 G3 F p
        by_cases hx : zfl (x, m) = true
        · rw [if_pos hx] at h
          obtain ⟨e2, f2⟩ := after e1 p.ev p.er.hot p.er.tab (fun _ _ _ _ z => nomatch z) (fun _ _ z => nomatch z) fun b hb => ⟨owns_sub e1 b hb, fun _ z => nomatch z⟩
          exact h v H2 _ G1 F ⟨e2, v1.trans e.hot (evo_lent hB p.ev), p.rp.zfl hx, p.nd, fun b hb => ⟨.inl (p.hot b hb).1, f2 b hb⟩⟩
        · rw [if_neg hx] at h
          obtain ⟨G2, e2, s2⟩ := e1.frz ys
          have ev' : Evo H1 (fun b => (M1 b ∧ b ∉ owns G1 ys) ∧ b ∉ ([] : List Addr)) (fun _ => []) H2 M3 G3 F :=
            ⟨p.ev.pres', p.ev.dom, fun b z => (p.ev.grow b z).imp (fun q => ⟨q, by simp⟩) id, fun b z => p.ev.keep b z.1, p.ev.env, p.ev.res⟩
          obtain ⟨e3, f3⟩ := after (B := []) e2 ev' p.er.hot p.er.tab (fun _ _ _ _ z => nomatch z) (fun _ _ z => nomatch z) fun b hb => nomatch hb
          have e3' : ER K (frz ys r1) σ G2 M3 H2 := e3.lessM (fun b z => .inl z) fun i b hb => (e3.sub i b hb).elim id fun z => nomatch z
          exact h v H2 _ G2 F ⟨e3', v1.trans e.hot (evo_lent2 hB s2 p.ev), p.rp, p.nd, fun b hb => ⟨(p.hot b hb).1, f3 b hb⟩⟩
      | ex c fs z =>
        rw [hf] at h
        simp only at h
        intro d H2 M3 G3 p
        by_cases hx : flatF fs = true
        · rw [if_pos hx] at h
          obtain ⟨e2, f2⟩ := after e1 p.ev p.er.hot p.er.tab (fun _ _ _ _ z => nomatch z) (fun _ _ z => nomatch z) fun b hb => ⟨owns_sub e1 b hb, fun _ z => nomatch z⟩
          exact h d H2 _ G1 ⟨e2, v1.trans e.hot (evo_lent hB p.ev), p.xd.flatAny hx⟩
        · rw [if_neg hx] at h
          exact h.elim
theorem Rp.toA {x : Dt} {m : Md} {v : V} {F : List Addr} (h : Rp K M H m v x F) (hz : Y.zfl (x, m) = true) : Ho K H v x F := by
  cases m with
  | c =>
    obtain ⟨z1, z2⟩ := h
    rw [z2]; exact z1.ho (by simpa [Y.zfl] using hz)
  | t =>
    obtain ⟨a, vs, xs, rfl, rfl, rfl, h3, c⟩ := h
    exact .l h3 (c.ho (by simpa [Y.zfl] using hz))
  | a => exact h
/-- a call that may change its first argument, a variable -/
def mCI (fn : Fn) (i : Nat) (as : List Am) : Ev → Ou Vl := fun r => match evA (.v i :: as) r with
  | .ok ys r1 => match r1[i]? with
    | some (some xm) => match look (r1.set i none) ys.tail with
      | some xs => match fn (xm :: cold xs) with
        | .rt (x, m) z => .ok (x, m) ((if zfl (x, m) && zfl z then r1.set i none else frz ys.tail (r1.set i none)).set i (some z))
        | .ex c fs z => if flatF fs && zfl z then .ex c fs ((r1.set i none).set i (some z)) else .no
        | .no => .no
      | none => .no
    | _ => .no
  | .ex c fs r1 => .ex c fs r1
  | .no => .no
theorem set_id {i : Nat} {v : V} (hv : σ[i]? = some (some v)) : σ.set i (some v) = σ := by
  apply List.ext_getElem?
  intro j
  by_cases q : i = j
  · subst q; rw [List.getElem?_set_self (List.getElem?_eq_some_iff.mp hv).1, hv]
  · rw [List.getElem?_set_ne q]
theorem Rp.lessM {m : Md} {v : V} {x : Dt} {F : List Addr} (h : Rp K M H m v x F) (q : ∀ b, M' b → M b) (ht : Hotty M H) : Rp K M' H m v x F := by
  cases m with
  | c => exact ⟨h.1.less q ht, h.2⟩
  | t => obtain ⟨a, vs, xs, rfl, rfl, rfl, e, c⟩ := h; exact ⟨a, vs, xs, rfl, rfl, rfl, e, c.less q ht⟩
  | a => exact h
theorem frz_len : ∀ (ys : List Ag) (r : Ev), (frz ys r).length = r.length
  | [], _ => rfl
  | .d _ :: ys, r => frz_len ys r
  | .v i :: ys, r => by
    simp only [frz]
    split
    · rw [frz_len ys]; simp
    · exact frz_len ys r
/-- the first argument's new state is put back -/
theorem put_back {i : Nat} {v0 : V} {M3 : Addr → Prop} {H2 : Hp} {G2 : Nat → List Addr} {F : List Addr} {x : Dt} {m : Md} (hv : σ[i]? = some (some v0)) (e : ER K r σ G2 M3 H2) (rp : Rp K M3 H2 m v0 x F) (nd : F.Nodup) (k : ∀ b ∈ F, M3 b ∧ ∀ j, b ∉ G2 j) :
    ER K (r.set i (some (x, m))) σ (fun j => if j = i then F else G2 j) M3 H2 := by
  have := e.put (i := i) (v := v0) rp nd k (List.getElem?_eq_some_iff.mp hv).1
  rwa [set_id hv] at this
theorem PX.first {v0 : V} {z : Vl} {M0 : Addr → Prop} {H0 : Hp} {G0 : Nat → List Addr} {v : V} {x : Dt} {m : Md} {F : List Addr} (p : PX K [some z] [some v0] H0 M0 G0 v x m H M G F) : Rp K M H z.2 v0 z.1 (G 0) := by
  obtain ⟨w, h1, h2⟩ := p.er.at_ 0 z.1 z.2 rfl
  simp at h1
  subst h1
  exact h2
theorem callI_core {n : Nat} {fn : Fn} {i : Nat} {r1 : Ev} {G1 : Nat → List Addr} {M1 : Addr → Prop} {H1 : Hp} {v0 : V} {vs : List V} {ys : List Ag} {x0 : Dt} {m0 : Md} {xs : List Dt} {Q : VK} {E : XK} (e1 : ER K r1 σ G1 M1 H1) (hlen : (v0 :: vs).length = n) (hv : σ[i]? = some (some v0)) (a1 : AgL K M1 H1 σ vs ys) (hr : r1[i]? = some (some (x0, m0))) (hl : look (r1.set i none) ys = some xs)
    (h : match fn ((x0, m0) :: cold xs) with
      | .rt (x, m) z => ∀ v H2 M2 G2 F, PX K ((if zfl (x, m) && zfl z then r1.set i none else frz ys (r1.set i none)).set i (some z)) σ H1 M1 G1 v x m H2 M2 G2 F → Q v H2
      | .ex c fs z => if flatF fs && zfl z then ∀ d H2 M2 G2, XX K ((r1.set i none).set i (some z)) σ H1 M1 G1 fs d H2 M2 G2 → E (.ref (cl c)) d H2 else False
      | .no => False) : spY K cl true n fn (v0 :: vs) H1 Q E := by
  obtain ⟨v0', hv', rp0⟩ := e1.at_ i x0 m0 hr
  rw [hv] at hv'; cases hv'
  have ed := e1.drop i
  generalize hGd : (fun j => if j = i then ([] : List Addr) else G1 j) = Gd at ed
  have gd : ∀ j b, b ∈ Gd j → j ≠ i ∧ b ∈ G1 j := fun j b hb => by
    rw [← hGd] at hb
    by_cases q : j = i
    · simp [q] at hb
    · exact ⟨q, by simpa [q] using hb⟩
  have gdi : ∀ j b, b ∈ Gd j → b ∉ G1 i := fun j b hb => let ⟨q, z⟩ := gd j b hb; e1.dj j i q b z
  have cc : CoL K (fun b => M1 b ∧ b ∉ owns Gd ys) H1 vs xs := look_cold ed (fun b z => z.1) (fun b hb z => z.2 hb) a1 hl
  have ht1 : Hotty (fun b => M1 b ∧ b ∉ owns Gd ys) H1 := fun b z => e1.hot b z.1
  have ow : ∀ b ∈ owns Gd ys, b ∉ G1 i := fun b hb => let ⟨j, q⟩ := mem_owns hb; gdi j b q
  have ec := ER.cons (v0 := v0) (x0 := x0) (m0 := m0) (F0 := G1 i) ht1 e1.tab cc (rp0.lessM (fun b z => z.1) e1.hot) (e1.nd i) fun b hb => ⟨e1.sub i b hb, fun z => ow b z hb⟩
  refine ⟨hlen, (x0, m0) :: cold xs, _, _, ec, fun j hj => if_neg (hj rfl), ?_⟩
  -- what the callee's frame says of the rest
  have rest : ∀ {M3 : Addr → Prop} {H2 : Hp} {G3 : Nat → List Addr} {F : List Addr}, Evo H1 (fun b => M1 b ∧ b ∉ owns Gd ys) (fun j => if j = 0 then G1 i else []) H2 M3 G3 F → Hotty M3 H2 → TabsK K H2 →
      (ER K (r1.set i none) σ Gd (fun b => M3 b ∨ b ∈ owns Gd ys) H2 ∧ (∀ b, b ∈ F → ∀ j, b ∉ Gd j) ∧ (∀ b, b ∈ G3 0 → ∀ j, b ∉ Gd j)) := fun {M3 H2 G3 F} ev ht3 tb3 => by
    obtain ⟨e2, f2⟩ := after ed ev ht3 tb3 (fun j b hb l hb2 => by
      cases l with
      | zero => exact gdi j b hb (by simpa using hb2)
      | succ l => simp at hb2) (fun l b hb => by
      cases l with
      | zero => exact e1.sub i b (by simpa using hb)
      | succ l => simp at hb) fun b hb => ⟨(owns_sub ed b hb), fun l z => by
      cases l with
      | zero => exact ow b hb (by simpa using z)
      | succ l => simp at z⟩
    refine ⟨e2, f2, fun b hb j hj => ?_⟩
    rcases ev.env 0 b hb with ⟨l, z⟩ | z
    · cases l with
      | zero => exact gdi j b hj (by simpa using z)
      | succ l => simp at z
    · obtain ⟨zs, q, _⟩ := ed.hot b (ed.sub j b hj)
      rw [q] at z; cases z
  have evs : ∀ {M3 : Addr → Prop} {H2 : Hp} {G3 : Nat → List Addr} {F : List Addr} {M4 : Addr → Prop} {G4 : Nat → List Addr}, Evo H1 (fun b => M1 b ∧ b ∉ owns Gd ys) (fun j => if j = 0 then G1 i else []) H2 M3 G3 F →
      (∀ b, M4 b → M3 b ∨ b ∈ owns Gd ys) → (∀ b, M3 b → M4 b) → (∀ b ∈ owns Gd ys, M4 b ∨ True) → (∀ j b, b ∈ G4 j → b ∈ G1 j ∨ b ∈ G3 0) → Evo H1 M1 G1 H2 M4 G4 F := fun {M3 H2 G3 F M4 G4} ev m4 m3 _ g4 => by
    have noi : ∀ b, (∀ j, b ∉ G1 j) → ∀ l, b ∉ (fun j => if j = 0 then G1 i else []) l := fun b hb l z => by
      cases l with
      | zero => exact hb i (by simpa using z)
      | succ l => simp at z
    have frm : ∀ {b : Addr}, ((∃ j, b ∈ (fun j => if j = 0 then G1 i else []) j) ∨ H1 b = none) → (∃ j, b ∈ G1 j) ∨ H1 b = none := fun {b} z => z.imp (fun ⟨l, q⟩ => by
      cases l with
      | zero => exact ⟨i, by simpa using q⟩
      | succ l => simp at q) id
    refine ⟨fun b o h hb => ev.pres b o h (noi b hb), ev.dom, fun b z => ?_, fun b h hb => ?_, fun j b hb => ?_, fun b hb => frm (ev.res b hb)⟩
    · rcases m4 b z with z | z
      · exact (ev.grow b z).imp And.left id
      · exact .inl (owns_sub ed b z)
    · exact m3 b (ev.keep b ⟨h, fun z => let ⟨j, q⟩ := mem_owns z; hb j (gd j b q).2⟩ (noi b hb))
    · rcases g4 j b hb with q | q
      · exact .inl ⟨j, q⟩
      · exact frm (ev.env 0 b q)
  cases hf : fn ((x0, m0) :: cold xs) with
  | no => rw [hf] at h; exact h
  | rt xm z =>
    obtain ⟨x, m⟩ := xm
    obtain ⟨zx, zm⟩ := z
    rw [hf] at h
    simp only at h
    intro v H2 M3 G3 F p
    have p : PX K [some (zx, zm)] [some v0] H1 (fun b => M1 b ∧ b ∉ owns Gd ys) (fun j => if j = 0 then G1 i else []) v x m H2 M3 G3 F := p
    obtain ⟨e2, f2, g2⟩ := rest p.ev p.er.hot p.er.tab
    have rpz := p.first
    by_cases hx : (zfl (x, m) && zfl (zx, zm)) = true
    · rw [if_pos hx] at h
      rw [Bool.and_eq_true] at hx
      have e3 := put_back hv e2 (rpz.zfl hx.2) (p.er.nd 0) fun b hb => ⟨.inl (p.er.sub 0 b hb), g2 b hb⟩
      refine h v H2 _ _ F ⟨e3, (evs p.ev (fun b z => z) (fun b z => .inl z) (fun _ _ => .inr trivial) fun j b hb => ?_), p.rp.zfl hx.1, p.nd, fun b hb => ⟨.inl (p.hot b hb).1, fun j hj => ?_⟩⟩
      · by_cases q : j = i
        · simp only [if_pos q] at hb; exact .inr hb
        · simp only [if_neg q] at hb; exact .inl (gd j b hb).2
      · by_cases q : j = i
        · simp only [if_pos q] at hj; exact (p.hot b hb).2 0 hj
        · simp only [if_neg q] at hj; exact f2 b hb j hj
    · rw [if_neg hx] at h
      obtain ⟨Gf, ef, sf⟩ := ed.frz ys
      have ev' : Evo H1 (fun b => (M1 b ∧ b ∉ owns Gd ys) ∧ b ∉ ([] : List Addr)) (fun j => if j = 0 then G1 i else []) H2 M3 G3 F :=
        ⟨p.ev.pres', p.ev.dom, fun b z => (p.ev.grow b z).imp (fun q => ⟨q, by simp⟩) id, fun b z => p.ev.keep b z.1, p.ev.env, p.ev.res⟩
      obtain ⟨e3, f3⟩ := after (B := []) ef ev' p.er.hot p.er.tab (fun j b hb l hb2 => by
        cases l with
        | zero => exact gdi j b (sf j b hb) (by simpa using hb2)
        | succ l => simp at hb2) (fun l b hb => by
        cases l with
        | zero => have hb : b ∈ G1 i := by simpa using hb
                  exact ⟨e1.sub i b hb, fun z => ow b z hb⟩
        | succ l => simp at hb) fun b hb => nomatch hb
      have e3' : ER K (frz ys (r1.set i none)) σ Gf M3 H2 := e3.lessM (fun b z => .inl z) fun j b hb => (e3.sub j b hb).elim id fun z => nomatch z
      have e4 := put_back hv e3' rpz (p.er.nd 0) fun b hb => ⟨p.er.sub 0 b hb, fun j hj => g2 b hb j (sf j b hj)⟩
      refine h v H2 _ _ F ⟨e4, (evs p.ev (fun b z => .inl z) (fun b z => z) (fun _ _ => .inr trivial) fun j b hb => ?_), p.rp, p.nd, fun b hb => ⟨(p.hot b hb).1, fun j hj => ?_⟩⟩
      · by_cases q : j = i
        · simp only [if_pos q] at hb; exact .inr hb
        · simp only [if_neg q] at hb; exact .inl (gd j b (sf j b hb)).2
      · by_cases q : j = i
        · simp only [if_pos q] at hj; exact (p.hot b hb).2 0 hj
        · simp only [if_neg q] at hj; exact f3 b hb j hj
  | ex c fs z =>
    obtain ⟨zx, zm⟩ := z
    rw [hf] at h
    simp only at h
    intro d H2 M3 G3 p
    have p : XX K [some (zx, zm)] [some v0] H1 (fun b => M1 b ∧ b ∉ owns Gd ys) (fun j => if j = 0 then G1 i else []) fs d H2 M3 G3 := p
    by_cases hx : (flatF fs && zfl (zx, zm)) = true
    · rw [if_pos hx] at h
      rw [Bool.and_eq_true] at hx
      obtain ⟨e2, f2, g2⟩ := rest p.ev p.er.hot p.er.tab
      obtain ⟨w, hw1, rpz⟩ := p.er.at_ 0 zx zm rfl
      simp at hw1
      subst hw1
      have e3 := put_back hv e2 (rpz.zfl hx.2) (p.er.nd 0) fun b hb => ⟨.inl (p.er.sub 0 b hb), g2 b hb⟩
      refine h d H2 _ _ ⟨e3, (evs p.ev (fun b z => z) (fun b z => .inl z) (fun _ _ => .inr trivial) fun j b hb => ?_), p.xd.flatAny hx.1⟩
      by_cases q : j = i
      · simp only [if_pos q] at hb; exact .inr hb
      · simp only [if_neg q] at hb; exact .inl (gd j b hb).2
    · rw [if_neg hx] at h
      exact h.elim
theorem mCI_ok {n : Nat} {fn : Fn} {i : Nat} {as : List Am} {Q : VK} (hn : as.length + 1 = n) (h : tI K cl W (mCI fn i as) σ H Q) : tOs K cl W (.v i :: as) σ H fun vs H1 => spY K cl true n fn vs H1 Q (WE W σ) := by
  obtain ⟨r, M, G, e, h⟩ := h
  refine tOs_ok (.v i :: as) e ?_
  simp only [mCI] at h
  cases ha : evA (.v i :: as) r with
  | no => rw [ha] at h; exact h
  | ex c fs r1 => rw [ha] at h; exact h
  | ok ys0 r1 =>
    rw [ha] at h
    obtain ⟨ys, rfl⟩ := evA_v ha
    simp only [List.tail_cons] at h
    intro vs0 H1 M1 G1 e1 v1 a1
    have hlen : vs0.length = n := by rw [← hn, a1.len, evA_len _ ha]; rfl
    cases a1 with
    | @v v0 vs _ _ hv a1 =>
    cases hr : r1[i]? with
    | none => rw [hr] at h; exact h.elim
    | some o =>
      cases o with
      | none => rw [hr] at h; exact h.elim
      | some xm =>
        obtain ⟨x0, m0⟩ := xm
        rw [hr] at h
        simp only at h
        cases hl : look (r1.set i none) ys with
        | none => rw [hl] at h; exact h.elim
        | some xs =>
          rw [hl] at h
          simp only at h
          refine callI_core e1 hlen hv a1 hr hl ?_
          cases hf : fn ((x0, m0) :: cold xs) with
          | no => rw [hf] at h; exact h
          | rt xm z =>
            obtain ⟨x, m⟩ := xm
            rw [hf] at h
            exact fun v H2 M2 G2 F p => h v H2 M2 G2 F ⟨p.er, v1.trans e.hot p.ev, p.rp, p.nd, p.hot⟩
          | ex c fs z =>
            rw [hf] at h
            simp only at h ⊢
            by_cases hx : (flatF fs && zfl z) = true
            · rw [if_pos hx] at h ⊢
              exact fun d H2 M2 G2 p => h d H2 M2 G2 ⟨p.er, v1.trans e.hot p.ev, p.xd⟩
            · rw [if_neg hx] at h
              exact h.elim
end
section
variable {X : Cx} {cl : Str → Addr} {W : WX}
theorem je_call {k : Nat} {f : Addr} {fd : FuncData} {ps : List Str} {n : Nat} {fn : Fn} {x : Str} {p pos : Pos} {e : Expr} {es : List Expr} {as : List Am} (F : FnOk X.prog X.w X.K X.mg X.base (L2.CX X.prog X.w) k f fd ps (spY X.K cl false n fn)) (hr : Room k X.A)
    (hm : X.mg x = some (.ref f)) (hk : PySem.W.keepIn X.K (.ref f) = true) (hb : Binds X.K fd ps []) (ha : JA X cl W (e :: es) as) (hn : as.length = n := by rfl) (hg : Gl X x := by rfl) (hdb : (x == ("__debug__" : Str)) = false := by decide)
    (he : starEach (e :: es) X.env = (false, eval e X.env) :: starEach es X.env := by rfl) (hpl : (backTo pos (starEach es X.env)).any (·.1) = false := by rfl) : JE X cl W (.Call (.Name x p) (e :: es) [] pos) (mC fn as) := fun tk =>
  (pe_callS F hr hg hm hk hb (fun σ => passAt tk σ) (ha.pa tk) hdb he hpl).yimp fun _ _ _ q => mC_ok hn q
theorem je_callI {k : Nat} {f : Addr} {fd : FuncData} {ps : List Str} {n : Nat} {fn : Fn} {i : Nat} {x : Str} {p pos : Pos} {e : Expr} {es : List Expr} {as : List Am} (F : FnOk X.prog X.w X.K X.mg X.base (L2.CX X.prog X.w) k f fd ps (spY X.K cl true n fn)) (hr : Room k X.A)
    (hm : X.mg x = some (.ref f)) (hk : PySem.W.keepIn X.K (.ref f) = true) (hb : Binds X.K fd ps []) (ha : JA X cl W (e :: es) (.v i :: as)) (hn : as.length + 1 = n := by rfl) (hg : Gl X x := by rfl) (hdb : (x == ("__debug__" : Str)) = false := by decide)
    (he : starEach (e :: es) X.env = (false, eval e X.env) :: starEach es X.env := by rfl) (hpl : (backTo pos (starEach es X.env)).any (·.1) = false := by rfl) : JE X cl W (.Call (.Name x p) (e :: es) [] pos) (mCI fn i as) := fun tk =>
  (pe_callS F hr hg hm hk hb (fun σ => passAt tk σ) (ha.pa tk) hdb he hpl).yimp fun _ _ _ q => mCI_ok hn q
end
end Y
namespace Y
open PySem L2
inductive So where
  | nx (r : Ev) | rt (x : Vl) (r : Ev) | bk (r : Ev) | ct (r : Ev) | ex (c : Str) (fs : List (Str × Dt)) (r : Ev) | no
/-- a statement's end; io: the first slot stays as it is (the argument that may be changed) -/
structure SX (K : PySem.W.Frag) (io : Bool) (r' : Ev) (σ σ' : L2.St) (H : Hp) (M : Addr → Prop) (G : Nat → List Addr) (H' : Hp) (M' : Addr → Prop) (G' : Nat → List Addr) : Prop where
  er : ER K r' σ' G' M' H'
  ev : Evo H M G H' M' G' []
  pin : io = true → σ'[0]? = σ[0]?
structure RX (K : PySem.W.Frag) (io : Bool) (r' : Ev) (σ σ' : L2.St) (H : Hp) (M : Addr → Prop) (G : Nat → List Addr) (v : V) (x : Dt) (m : Md) (H' : Hp) (M' : Addr → Prop) (G' : Nat → List Addr) (F : List Addr) : Prop where
  px : PX K r' σ' H M G v x m H' M' G' F
  pin : io = true → σ'[0]? = σ[0]?
structure EX (K : PySem.W.Frag) (io : Bool) (r' : Ev) (σ σ' : L2.St) (H : Hp) (M : Addr → Prop) (G : Nat → List Addr) (fs : List (Str × Dt)) (d : Option Addr) (H' : Hp) (M' : Addr → Prop) (G' : Nat → List Addr) : Prop where
  xx : XX K r' σ' H M G fs d H' M' G'
  pin : io = true → σ'[0]? = σ[0]?
/-- what is wanted of a statement's ends -/
def sEnd (K : PySem.W.Frag) (cl : Str → Addr) (W : WX) (io : Bool) (D : Ends) (σ : L2.St) (H : Hp) (M : Addr → Prop) (G : Nat → List Addr) : So → Prop
  | .nx r' => ∀ σ' H' M' G', SX K io r' σ σ' H M G H' M' G' → D.nx σ' H'
  | .bk r' => ∀ σ' H' M' G', SX K io r' σ σ' H M G H' M' G' → D.bk σ' H'
  | .ct r' => ∀ σ' H' M' G', SX K io r' σ σ' H M G H' M' G' → D.ct σ' H'
  | .rt (x, m) r' => ∀ v σ' H' M' G' F, RX K io r' σ σ' H M G v x m H' M' G' F → D.rt v H'
  | .ex c fs r' => ∀ d σ' H' M' G', EX K io r' σ σ' H M G fs d H' M' G' → W (.ref (cl c)) d σ' H'
  | .no => False
def tIS (K : PySem.W.Frag) (cl : Str → Addr) (W : WX) (io : Bool) (g : Ev → So) : TS := fun D σ H => ∃ r M G, ER K r σ G M H ∧ sEnd K cl W io D σ H M G (g r)
def JS (X : Cx) (cl : Str → Addr) (W : WX) (io : Bool) (st : Stmt) (g : Ev → So) : Prop := Takes X W → PS X st (tIS X.K cl W io g)
def JB (X : Cx) (cl : Str → Addr) (W : WX) (io : Bool) (sts : List Stmt) (g : Ev → So) : Prop := Takes X W → PSs X sts (tIS X.K cl W io g)
theorem _root_.L2.PS.yimp {X : Cx} {e : Stmt} {t t' : TS} (h : PS X e t) (k : ∀ D σ H, t' D σ H → t D σ H) : PS X e t' := ⟨fun pins s σ H D I q => h.run pins s σ H D I (k D σ H q)⟩
theorem _root_.L2.PSs.yimp {X : Cx} {e : List Stmt} {t t' : TS} (h : PSs X e t) (k : ∀ D σ H, t' D σ H → t D σ H) : PSs X e t' := ⟨fun pins s σ H D I q => h.run pins s σ H D I (k D σ H q)⟩
section
variable {K : PySem.W.Frag} {cl : Str → Addr} {W : WX} {io : Bool} {M M' M0 : Addr → Prop} {H H' H0 : Hp} {G G' G0 : Nat → List Addr} {r r' : Ev} {σ σ0 : L2.St} {D : Ends}
/-- from an earlier state -/
theorem sEnd.back (ht : Hotty M0 H0) (ev : Evo H0 M0 G0 H M G []) (pin : io = true → σ[0]? = σ0[0]?) : ∀ {o : So}, sEnd K cl W io D σ0 H0 M0 G0 o → sEnd K cl W io D σ H M G o
  | .nx r', h => fun σ' H' M' G' p => h σ' H' M' G' ⟨p.er, ev.trans ht p.ev, fun i => (p.pin i).trans (pin i)⟩
  | .bk r', h => fun σ' H' M' G' p => h σ' H' M' G' ⟨p.er, ev.trans ht p.ev, fun i => (p.pin i).trans (pin i)⟩
  | .ct r', h => fun σ' H' M' G' p => h σ' H' M' G' ⟨p.er, ev.trans ht p.ev, fun i => (p.pin i).trans (pin i)⟩
  | .rt (x, m) r', h => fun v σ' H' M' G' F p => h v σ' H' M' G' F ⟨⟨p.px.er, ev.trans ht p.px.ev, p.px.rp, p.px.nd, p.px.hot⟩, fun i => (p.pin i).trans (pin i)⟩
  | .ex c fs r', h => fun d σ' H' M' G' p => h d σ' H' M' G' ⟨⟨p.xx.er, ev.trans ht p.xx.ev, p.xx.xd⟩, fun i => (p.pin i).trans (pin i)⟩
  | .no, h => h
theorem sEnd.mono {D' : Ends} (hn : ∀ σ H, D.nx σ H → D'.nx σ H) (hr : ∀ v H, D.rt v H → D'.rt v H) (hb : ∀ σ H, D.bk σ H → D'.bk σ H) (hc : ∀ σ H, D.ct σ H → D'.ct σ H) : ∀ {o : So}, sEnd K cl W io D σ H M G o → sEnd K cl W io D' σ H M G o
  | .nx r', h => fun σ' H' M' G' p => hn _ _ (h σ' H' M' G' p)
  | .bk r', h => fun σ' H' M' G' p => hb _ _ (h σ' H' M' G' p)
  | .ct r', h => fun σ' H' M' G' p => hc _ _ (h σ' H' M' G' p)
  | .rt (x, m) r', h => fun v σ' H' M' G' F p => hr _ _ (h v σ' H' M' G' F p)
  | .ex c fs r', h => h
  | .no, h => h
/-- an expression, then something of it -/
def sWith (f : Ev → Ou Vl) (k : Vl → Ev → So) : Ev → So := fun r => match f r with
  | .ok x r' => k x r'
  | .ex c fs r' => .ex c fs r'
  | .no => .no
theorem tIS_with {f : Ev → Ou Vl} {k : Vl → Ev → So} {Q : VK} (h : tIS K cl W io (sWith f k) D σ H)
    (q : ∀ r M G x m r' v H' M' G' F, ER K r σ G M H → PX K r' σ H M G v x m H' M' G' F → sEnd K cl W io D σ H M G (k (x, m) r') → Q v H') : tI K cl W f σ H Q := by
  obtain ⟨r, M, G, e, h⟩ := h
  refine ⟨r, M, G, e, ?_⟩
  simp only [sWith] at h
  cases hf : f r with
  | no => rw [hf] at h; exact h
  | ex c fs r' =>
    rw [hf] at h
    exact fun d H' M' G' p => h d σ H' M' G' ⟨p, fun _ => rfl⟩
  | ok xm r' =>
    obtain ⟨x, m⟩ := xm
    rw [hf] at h
    exact fun v H' M' G' F p => q r M G x m r' v H' M' G' F e p h
end
section
variable {X : Cx} {cl : Str → Addr} {W : WX} {io : Bool}
def sSeq (f g : Ev → So) : Ev → So := fun r => match f r with
  | .nx r' => g r'
  | o => o
def sNx : Ev → So := fun r => .nx r
theorem jb_nil : JB X cl W io [] sNx := fun _ => pss_nil.yimp fun D σ H ⟨r, M, G, e, h⟩ => h σ H M G ⟨e, .refl, fun _ => rfl⟩
theorem tIS_seq {K : PySem.W.Frag} {f g : Ev → So} {D : Ends} {σ : L2.St} {H : Hp} (h : tIS K cl W io (sSeq f g) D σ H) : tIS K cl W io f { D with nx := tIS K cl W io g D } σ H := by
  obtain ⟨r, M, G, e, h⟩ := h
  refine ⟨r, M, G, e, ?_⟩
  simp only [sSeq] at h
  cases hf : f r with
  | nx r' =>
    rw [hf] at h
    exact fun σ' H' M' G' p => ⟨r', M', G', p.er, h.back e.hot p.ev p.pin⟩
  | rt x r' => rw [hf] at h; exact h
  | bk r' => rw [hf] at h; exact h
  | ct r' => rw [hf] at h; exact h
  | ex c fs r' => rw [hf] at h; exact h
  | no => rw [hf] at h; exact h
theorem jb_c {st : Stmt} {sts : List Stmt} {f g : Ev → So} (h : JS X cl W io st f) (q : JB X cl W io sts g) : JB X cl W io (st :: sts) (sSeq f g) := fun tk =>
  (pss_cons (h tk) (q tk)).yimp fun _ _ _ z => tIS_seq z
theorem jb_1 {st : Stmt} {f : Ev → So} (h : JS X cl W io st f) : JB X cl W io [st] f := fun tk => pss_one (h tk)
def sNo : Ev → So := fun _ => .no
theorem js_never {st : Stmt} : JS X cl W io st sNo := fun _ => ps_never.yimp fun D σ H ⟨r, M, G, e, h⟩ => h
def sBk : Ev → So := fun r => .bk r
def sCt : Ev → So := fun r => .ct r
def sRet (f : Ev → Ou Vl) : Ev → So := sWith f fun x r => .rt x r
theorem js_ret {e : Expr} {f : Ev → Ou Vl} {pos : Pos} (h : JE X cl W e f) : JS X cl W io (.Return (some e) pos) (sRet f) := fun tk => (ps_ret (h tk)).yimp fun D σ H q =>
  tIS_with q fun r M G x m r' v H' M' G' F e p k => k v σ H' M' G' F ⟨p, fun _ => rfl⟩
/-- a variable handed back: it is moved -/
def sRetV (i : Nat) : Ev → So := fun r => match r[i]? with
  | some (some x) => .rt x (r.set i none)
  | _ => .no
theorem js_retV {e : Expr} (i : Nat) {pos : Pos} (h : PE X e (tVar i)) : JS X cl W io (.Return (some e) pos) (sRetV i) := fun _ => (ps_ret h).yimp fun D σ H ⟨r, M, G, e, q⟩ => by
  simp only [sRetV] at q
  cases hr : r[i]? with
  | none => rw [hr] at q; exact q.elim
  | some o =>
    cases o with
    | none => rw [hr] at q; exact q.elim
    | some xm =>
      obtain ⟨x, m⟩ := xm
      rw [hr] at q
      obtain ⟨v, hv, rp⟩ := e.at_ i x m hr
      refine ⟨v, hv, q v σ H M _ (G i) ⟨⟨e.drop i, ⟨fun _ _ h _ => h, fun _ h => h, fun _ h => .inl h, fun _ h _ => h, fun j b hb => .inl ⟨j, ?_⟩, fun b hb => .inl ⟨i, hb⟩⟩, rp, e.nd i, fun b hb => ⟨e.sub i b hb, fun j hj => ?_⟩⟩, fun _ => rfl⟩⟩
      · by_cases z : j = i
        · simp [z] at hb
        · simpa [z] using hb
      · by_cases z : j = i
        · simp [z] at hj
        · simp only [if_neg z] at hj
          exact e.dj j i z b hj hb
def sRetN : Ev → So := fun r => .rt (.n, .c) r
def sExpr (f : Ev → Ou Vl) : Ev → So := sWith f fun _ r => .nx r
theorem js_expr {e : Expr} {f : Ev → Ou Vl} {pos : Pos} (h : JE X cl W e f) (hs : swapsWith e none pos.line X.env = pure false := by rfl) : JS X cl W io (.Expr e pos) (sExpr f) := fun tk => (ps_expr (h tk) hs).yimp fun D σ H q =>
  tIS_with q fun r M G x m r' v H' M' G' F e p k => by
    obtain ⟨M2, e2, v2, _⟩ := p.giveUp e.hot
    exact k σ H' M2 G' ⟨e2, v2, fun _ => rfl⟩
def sIf (c : Ev → Ou Bool) (f g : Ev → So) : Ev → So := fun r => match c r with
  | .ok true r' => f r'
  | .ok false r' => g r'
  | .ex c fs r' => .ex c fs r'
  | .no => .no
theorem js_if {c : Expr} {a b : List Stmt} {fc : Ev → Ou Bool} {f g : Ev → So} {pos : Pos} (hc : JT X cl W c fc) (ha : JB X cl W io a f) (hb : JB X cl W io b g) : JS X cl W io (.If c a b pos) (sIf fc f g) := fun tk =>
  (ps_if (hc tk) (ha tk) (hb tk)).yimp fun D σ H ⟨r, M, G, e, q⟩ => by
    refine ⟨r, M, G, e, ?_⟩
    simp only [sIf] at q
    cases hf : fc r with
    | no => rw [hf] at q; exact q
    | ex c fs r' =>
      rw [hf] at q
      exact fun d H' M' G' p => q d σ H' M' G' ⟨p, fun _ => rfl⟩
    | ok k r' =>
      rw [hf] at q
      intro H' M' G' e' v'
      cases k with
      | true => rw [if_pos rfl]; exact ⟨r', M', G', e', q.back e.hot v' fun _ => rfl⟩
      | false => rw [if_neg Bool.false_ne_true]; exact ⟨r', M', G', e', q.back e.hot v' fun _ => rfl⟩
/-- a target: it stores a value with its owned lists -/
def TgOk (K : PySem.W.Frag) (io : Bool) (g : TG) (t : Vl → Ev → Option Ev) : Prop :=
  ∀ (r : Ev) (σ : L2.St) (G : Nat → List Addr) (M : Addr → Prop) (H : Hp) (v : V) (x : Dt) (m : Md) (F : List Addr) (r' : Ev) (Q : L2.St → Hp → Prop), ER K r σ G M H → Rp K M H m v x F → F.Nodup → (∀ b ∈ F, M b ∧ ∀ i, b ∉ G i) → t (x, m) r = some r' →
    (∀ σ' H' M' G', ER K r' σ' G' M' H' → (∀ b o, H b = some o → (∀ i, b ∉ G i) → b ∉ F → ∀ {nt : notT o}, H' b = some o) → (∀ b, H' b = none → H b = none) → (∀ b, M' b → M b ∨ H b = none) → (∀ b, M b → (∀ i, b ∉ G i) → b ∉ F → M' b) → (∀ i b, b ∈ G' i → (∃ j, b ∈ G j) ∨ b ∈ F ∨ H b = none) → (io = true → σ'[0]? = σ[0]?) → Q σ' H') → g v σ H Q
def sAsg (f : Ev → Ou Vl) (t : Vl → Ev → Option Ev) : Ev → So := sWith f fun x r => match t x r with
  | some r' => .nx r'
  | none => .no
theorem asg_go {K : PySem.W.Frag} {f : Ev → Ou Vl} {t : Vl → Ev → Option Ev} {g : TG} {D : Ends} {σ : L2.St} {H : Hp} (ht : TgOk K io g t) (q : tIS K cl W io (sAsg f t) D σ H) : tI K cl W f σ H fun v H1 => g v σ H1 D.nx :=
  tIS_with q fun r M G x m r' v H' M' G' F e p k => by
    cases hk : t (x, m) r' with
    | none => simp only [hk] at k; exact k.elim
    | some r2 =>
      simp only [hk] at k
      refine ht r' σ G' M' H' v x m F r2 _ p.er p.rp p.nd p.hot hk fun σ2 H2 M2 G2 e2 pr dm gr kp en pin => ?_
      have nf : ∀ b o, H b = some o → (∀ i, b ∉ G i) → b ∉ F := fun b o h hb hf => by
        rcases p.ev.res b hf with ⟨j, z⟩ | z
        · exact hb j z
        · rw [h] at z; cases z
      have ng : ∀ b o, H b = some o → (∀ i, b ∉ G i) → ∀ i, b ∉ G' i := fun b o h hb i hi => by
        rcases p.ev.env i b hi with ⟨j, z⟩ | z
        · exact hb j z
        · rw [h] at z; cases z
      refine k σ2 H2 M2 G2 ⟨e2, ⟨fun b o h hb {nt} => pr b o (p.ev.pres b o h hb) (ng b o h hb) (nf b o h hb) (nt := nt), fun b h => p.ev.dom b (dm b h), fun b z => ?_, fun b h hb => ?_, fun i b hb => ?_, fun _ z => nomatch z⟩, pin⟩
      · rcases gr b z with z | z
        · exact p.ev.grow b z
        · exact .inr (p.ev.dom b z)
      · obtain ⟨xs, h0, _⟩ := e.hot b h
        exact kp b (p.ev.keep b h hb) (ng b _ h0 hb) (nf b _ h0 hb)
      · rcases en i b hb with ⟨j, z⟩ | z | z
        · exact p.ev.env j b z
        · exact p.ev.res b z
        · exact .inr (p.ev.dom b z)
/-- a name -/
def tgV (i : Nat) : Vl → Ev → Option Ev := fun x r => if i < r.length then some (r.set i (some x)) else none
theorem tg_name {K : PySem.W.Frag} {i : Nat} (hio : io = true → i ≠ 0) : TgOk K io (gName i) (tgV i) := fun r σ G M H v x m F r' Q e rp nd hot ht k => by
  simp only [tgV] at ht
  split at ht
  · rename_i hi
    cases ht
    have hi' : i < σ.length := by rw [← e.len]; exact hi
    refine k _ H M _ (e.put rp nd hot hi') (fun _ _ h _ _ => h) (fun _ h => h) (fun _ h => .inl h) (fun _ h _ _ => h) (fun j b hb => ?_) fun z => ?_
    · by_cases q : j = i
      · simp only [if_pos q] at hb; exact .inr (.inl hb)
      · simp only [if_neg q] at hb; exact .inl ⟨j, hb⟩
    · rw [List.getElem?_set_ne (hio z)]
  · cases ht
theorem js_set {i : Nat} {x : Str} {e : Expr} {f : Ev → Ou Vl} {pos pos' : Pos} (hN : X.N.Nodup) (hi : X.N[i]? = some x) (hx : Loc X.env.scope x) (hio : io = true → i ≠ 0) (he : JE X cl W e f) (hs : swapsWith e (some (.Name x pos')) pos.line X.env = pure false := by rfl)
    (hf : X.fn x = true ∨ X.env.scope.names.lookup x = some .local := by first | exact .inl rfl | exact .inr rfl | assumption) : JS X cl W io (.Assign [.Name x pos'] e pos) (sAsg f (tgV i)) := fun tk =>
  (ps_set hN hi hx (he tk) hs hf).yimp fun _ _ _ q => asg_go (tg_name hio) q
theorem js_asg {tg e : Expr} {g : TG} {f : Ev → Ou Vl} {t : Vl → Ev → Option Ev} {pos : Pos} (hg : PG X tg g) (ht : TgOk X.K io g t) (he : JE X cl W e f) (hs : swapsWithSole [tg] e pos.line X.env = pure false := by rfl) (hw : swappedStores [tg] e X.env = pure none := by rfl)
    (h1 : (assignEach [tg] X.env).map (·.2) = [assign tg X.env] := by rfl) : JS X cl W io (.Assign [tg] e pos) (sAsg f t) := fun tk =>
  (ps_asg (he tk) hg hs hw h1).yimp fun _ _ _ q => asg_go ht q
end
end Y
namespace Y
open PySem L2
section
variable {K : PySem.W.Frag} {cl : Str → Addr} {W : WX} {io : Bool} {M M' M0 : Addr → Prop} {H H' H0 : Hp} {G G' G0 : Nat → List Addr} {r r' : Ev} {σ σ0 : L2.St} {D : Ends}
def tgs : List (Vl → Ev → Option Ev) → List Dt → Ev → Option Ev
  | [], [], r => some r
  | t :: ts, x :: xs, r => (t (x, .c) r).bind (tgs ts xs)
  | _, _, _ => none
def tgT (ts : List (Vl → Ev → Option Ev)) : Vl → Ev → Option Ev := fun x r => match x.1 with
  | .t xs => tgs ts xs r
  | .l xs => tgs ts xs r
  | .z xs => tgs ts xs r
  | _ => none
/-- a tuple or a list of that length -/
def gTupA (K : PySem.W.Frag) (n : Nat) (t : TGs) : TG := fun v σ H Q => gTup K n t v σ H Q ∨ gUnl K n t v σ H Q
theorem pg_tupA {X : Cx} {pos : Pos} {es : List Expr} {k : Nat} {t : TGs} {n : Nat} (hc : X.calm = true) (h : PGs X es t) (hn : (assignEach es X.env).length = n := by rfl) (hst : (assignEach es X.env).findIdx? (·.1) = none := by rfl) : PG X (.Tuple es k pos) (gTupA X.K n t) :=
  ⟨fun pins s σ H v u Q I r hw => hw.elim (fun hw => (pg_tup hc h hn hst).run pins s σ H v u Q I r hw) fun hw => (pg_unl hc h hn hst).run pins s σ H v u Q I r hw⟩
inductive TgsOk (K : PySem.W.Frag) (io : Bool) : TGs → List (Vl → Ev → Option Ev) → Prop
  | nil : TgsOk K io gNil []
  | cons {g : TG} {gs : TGs} {t : Vl → Ev → Option Ev} {ts : List (Vl → Ev → Option Ev)} : TgOk K io g t → TgsOk K io gs ts → TgsOk K io (gCons g gs) (t :: ts)
/-- the plain part of what a target leaves -/
structure Tx (K : PySem.W.Frag) (io : Bool) (r' : Ev) (σ σ' : L2.St) (H : Hp) (M : Addr → Prop) (G : Nat → List Addr) (H' : Hp) (M' : Addr → Prop) (G' : Nat → List Addr) : Prop where
  er : ER K r' σ' G' M' H'
  pres' : ∀ b o, H b = some o → (∀ i, b ∉ G i) → ∀ {nt : notT o}, H' b = some o
  dom : ∀ b, H' b = none → H b = none
  grow : ∀ b, M' b → M b ∨ H b = none
  keep : ∀ b, M b → (∀ i, b ∉ G i) → M' b
  env : ∀ i b, b ∈ G' i → (∃ j, b ∈ G j) ∨ H b = none
  pin : io = true → σ'[0]? = σ[0]?
theorem Tx.pres {σ' : L2.St} (t : Tx K io r' σ σ' H M G H' M' G') (b : Addr) (o : HO) (h : H b = some o) (hb : ∀ i, b ∉ G i) (nt : notT o := by first | assumption | exact hot_nt (by assumption) | (intro _ z; cases z)) : H' b = some o := t.pres' b o h hb (nt := nt)
theorem Tx.evo {σ' : L2.St} (t : Tx K io r' σ σ' H M G H' M' G') : Evo H M G H' M' G' [] := ⟨t.pres', t.dom, t.grow, t.keep, t.env, fun _ z => nomatch z⟩
theorem TgOk.cold {g : TG} {t : Vl → Ev → Option Ev} (h : TgOk K io g t) {v : V} {x : Dt} {Q : L2.St → Hp → Prop} (e : ER K r σ G M H) (c : Co K M H v x) (ht : t (x, .c) r = some r')
    (k : ∀ σ' H' M' G', Tx K io r' σ σ' H M G H' M' G' → Q σ' H') : g v σ H Q :=
  h r σ G M H v x .c [] r' Q e ⟨c, rfl⟩ List.nodup_nil (fun _ z => nomatch z) ht fun σ' H' M' G' e' p d gr kp en pin => k σ' H' M' G' ⟨e', fun b o h1 h2 {nt} => p b o h1 h2 (by simp) (nt := nt), d, gr, fun b h1 h2 => kp b h1 h2 (by simp), fun i b hb => (en i b hb).imp id fun z => z.elim (fun z => nomatch z) id, pin⟩
theorem TgsOk.run {gs : TGs} {ts : List (Vl → Ev → Option Ev)} (h : TgsOk K io gs ts) : ∀ {r r' : Ev} {σ : L2.St} {G : Nat → List Addr} {M : Addr → Prop} {H : Hp} {vs : List V} {xs : List Dt} {Q : L2.St → Hp → Prop}, ER K r σ G M H → CoL K M H vs xs → tgs ts xs r = some r' →
    (∀ σ' H' M' G', Tx K io r' σ σ' H M G H' M' G' → Q σ' H') → gs vs σ H Q := by
  induction h with
  | nil =>
    intro r r' σ G M H vs xs Q e c ht k
    cases c with
    | nil =>
      simp only [tgs] at ht
      cases ht
      exact ⟨rfl, k σ H M G ⟨e, fun _ _ h _ => h, fun _ h => h, fun _ h => .inl h, fun _ h _ => h, fun i b h => .inl ⟨i, h⟩, fun _ => rfl⟩⟩
    | cons _ _ => simp [tgs] at ht
  | @cons g gs t ts h1 _ ih =>
    intro r r' σ G M H vs xs Q e c ht k
    cases c with
    | nil => simp [tgs] at ht
    | @cons v vs x xs c cs =>
      simp only [tgs, Option.bind_eq_some_iff] at ht
      obtain ⟨r1, ht1, ht2⟩ := ht
      refine ⟨v, vs, rfl, h1.cold e c ht1 fun σ1 H1 M1 G1 t1 => ?_⟩
      refine ih t1.er (cs.fm (e.fm t1.evo)) ht2 fun σ2 H2 M2 G2 t2 => k σ2 H2 M2 G2 ?_
      have v := t1.evo.trans e.hot t2.evo
      exact ⟨t2.er, v.pres', v.dom, v.grow, v.keep, v.env, fun i => (t2.pin i).trans (t1.pin i)⟩
theorem tg_tup {gs : TGs} {ts : List (Vl → Ev → Option Ev)} {n : Nat} (h : TgsOk K io gs ts) (hn : ts.length = n) : TgOk K io (gTupA K n gs) (tgT ts) := fun r σ G M H v x m F r' Q e rp nd hot ht k => by
  have e2 : ER K r σ G (fun b => M b ∧ b ∉ F) H := e.lessM (fun b z => z.1) fun i b hb => ⟨e.sub i b hb, fun z => (hot b z).2 i hb⟩
  have c : Co K (fun b => M b ∧ b ∉ F) H v x := rp.cold e.hot (fun b hb z => z.2 hb) fun b z => z.1
  have hl : ∀ (ts : List (Vl → Ev → Option Ev)) (xs : List Dt) (r : Ev) {r'}, tgs ts xs r = some r' → xs.length = ts.length := by
    intro ts
    induction ts with
    | nil =>
      intro xs r r' h
      cases xs with
      | nil => rfl
      | cons => simp [tgs] at h
    | cons t ts ih =>
      intro xs r r' h
      cases xs with
      | nil => simp [tgs] at h
      | cons x xs =>
        simp only [tgs, Option.bind_eq_some_iff] at h
        obtain ⟨r1, _, h2⟩ := h
        simp [ih xs r1 h2]
  have fin : ∀ {vs : List V} {xs : List Dt}, CoL K (fun b => M b ∧ b ∉ F) H vs xs → tgs ts xs r = some r' → vs.length = n ∧ gs vs σ H Q := fun {vs xs} cs ht =>
    ⟨by rw [cs.len, hl ts xs r ht, hn], h.run e2 cs ht fun σ' H' M' G' t => k σ' H' M' G' t.er (fun b o h1 h2 _ => t.pres b o h1 h2) t.dom (fun b z => (t.grow b z).imp And.left id) (fun b h1 h2 h3 => t.keep b ⟨h1, h3⟩ h2) (fun i b hb => (t.env i b hb).imp id .inr) t.pin⟩
  cases c with
  | @t a vs xs hs cs => exact .inl ⟨a, vs, rfl, hs, fin cs ht⟩
  | @l a vs xs hs _ cs => exact .inr ⟨a, vs, rfl, .inl (.inl hs), fin cs ht⟩
  | @z a vs xs hs cs => exact .inr ⟨a, vs, rfl, hs.sq, fin cs ht⟩
  | _ => simp [tgT] at ht
/-- turns over items -/
structure SrcOk (K : PySem.W.Frag) (J : It) (M : Addr → Prop) (H : Hp) (xs : List Dt) : Prop where
  go : ∀ i M1 H1, i < xs.length → Fm M H M1 H1 → J.go i H1
  stop : ∀ M1 H1, Fm M H M1 H1 → J.stop xs.length H1
  yld : ∀ i x v M1 H1 H2, xs[i]? = some x → Fm M H M1 H1 → Hotty M1 H1 → J.yld i H1 v H2 → (∀ b o, H1 b = some o → H2 b = some o) ∧ Co K M1 H2 v x
def tII (K : PySem.W.Frag) (cl : Str → Addr) (W : WX) (s : Ev → Ou (List Dt)) : TI := fun σ H R => ∃ r M G, ER K r σ G M H ∧
  match s r with
  | .ok xs r' => ∀ J H' M' G', ER K r' σ G' M' H' → Evo H M G H' M' G' [] → SrcOk K J M' H' xs → R J H'
  | .ex c fs r' => ∀ d H' M' G', XX K r' σ H M G fs d H' M' G' → W (.ref (cl c)) d σ H'
  | .no => False
theorem Fm.trans {M2 : Addr → Prop} {H2 : Hp} (dom : ∀ b, H' b = none → H b = none) (a : Fm M H M' H') (c : Fm M' H' M2 H2) : Fm M H M2 H2 :=
  ⟨fun b o e hn => c.keep b o (a.keep b o e hn) fun z => (a.grow b z).elim hn fun q => (by rw [e] at q; cases q), fun b z => (c.grow b z).elim (a.grow b) fun q => .inr (dom b q), a.hot⟩
/-- the heap grows by what is new -/
theorem ER.grown (e : ER K r σ G M H) (h : ∀ b o, H b = some o → H' b = some o) : ER K r σ G M H' ∧ Evo H M G H' M G [] := by
  have dm : ∀ b, H' b = none → H b = none := fun b q => by
    cases z : H b with
    | none => rfl
    | some o =>
      rw [h b o z] at q
      cases q
  exact ⟨e.evoF (fun b o q _ => h b o q) (fun b z => .inl z) (fun i b hb => e.sub i b hb) fun b z => let ⟨xs, q, ho⟩ := e.hot b z; ⟨xs, h b _ q, ho⟩, ⟨fun b o q _ => h b o q, dm, fun b z => .inl z, fun b z _ => z, fun i b hb => .inl ⟨i, hb⟩, fun _ z => nomatch z⟩⟩
/-- what stands stays, but tables of code objects may grow -/
structure SW (K : PySem.W.Frag) (H H' : Hp) : Prop where
  st : ∀ b o, H b = some o → notT o → H' b = some o
  tb : TabsK K H'
  dm : ∀ b, H' b = none → H b = none
theorem ER.grownW (e : ER K r σ G M H) (w : SW K H H') : ER K r σ G M H' ∧ Evo H M G H' M G [] :=
  ⟨e.evoW w.tb (fun b o q _ {nt} => w.st b o q nt) (fun b z => .inl z) (fun i b hb => e.sub i b hb) fun b z => let ⟨xs, q, ho⟩ := e.hot b z; ⟨xs, w.st b _ q (hot_nt ho), ho⟩, ⟨fun b o q _ {nt} => w.st b o q nt, w.dm, fun b z => .inl z, fun b z _ => z, fun i b hb => .inl ⟨i, hb⟩, fun _ z => nomatch z⟩⟩
def forL (t : Vl → Ev → Option Ev) (body : Ev → So) : List Dt → Ev → So
  | [], r => .nx r
  | x :: xs, r => match t (x, .c) r with
    | none => .no
    | some r1 => match body r1 with
      | .nx r2 => forL t body xs r2
      | .ct r2 => forL t body xs r2
      | .bk r2 => .nx r2
      | .rt x r2 => .rt x r2
      | .ex c fs r2 => .ex c fs r2
      | .no => .no
def sFor (s : Ev → Ou (List Dt)) (t : Vl → Ev → Option Ev) (body : Ev → So) : Ev → So := fun r => match s r with
  | .ok xs r1 => forL t body xs r1
  | .ex c fs r1 => .ex c fs r1
  | .no => .no
theorem tIS_for {s : Ev → Ou (List Dt)} {t : Vl → Ev → Option Ev} {body : Ev → So} {g : TG} (ht : TgOk K io g t) (h : tIS K cl W io (sFor s t body) D σ H) : tFor (tII K cl W s) g (tIS K cl W io body) D σ H := by
  obtain ⟨r, M, G, e, h⟩ := h
  refine ⟨r, M, G, e, ?_⟩
  simp only [sFor] at h
  cases hs : s r with
  | no => rw [hs] at h; exact h
  | ex c fs r' => rw [hs] at h; exact fun d H' M' G' p => h d σ H' M' G' ⟨p, fun _ => rfl⟩
  | ok xs r1 =>
    rw [hs] at h
    simp only at h
    intro J H1 M1 G1 e1 v1 so
    refine ⟨fun i m σ' H' => m = xs.length - i ∧ i ≤ xs.length ∧ ∃ r' M' G', ER K r' σ' G' M' H' ∧ Evo H1 M1 G1 H' M' G' [] ∧ (io = true → σ'[0]? = σ[0]?) ∧ sEnd K cl W io D σ H M G (forL t body (xs.drop i) r'),
      ⟨xs.length, by simp, Nat.zero_le _, r1, M1, G1, e1, .refl, fun _ => rfl, by simpa using h⟩, ?_⟩
    rintro i m σ' H' ⟨rfl, hi, r', M', G', e', v', pin', h'⟩
    have f' := e1.fm v'
    by_cases hlt : i < xs.length
    · refine .inr ⟨so.go i M' H' hlt f', _, fun σ2 H2 q => ⟨xs.length - (i + 1), by omega, rfl, hlt, q⟩, fun v H2 y => ?_⟩
      have hx : xs[i]? = some xs[i] := by simp [hlt]
      obtain ⟨hg, c⟩ := so.yld i xs[i] v M' H' H2 hx f' e'.hot y
      obtain ⟨e2, v2⟩ := e'.grown hg
      rw [List.drop_eq_getElem_cons hlt] at h'
      simp only [forL] at h'
      cases hk : t (xs[i], .c) r' with
      | none => rw [hk] at h'; exact h'.elim
      | some r3 =>
        rw [hk] at h'
        simp only at h'
        refine ht.cold e2 c hk fun σ3 H3 M3 G3 t3 => ⟨r3, M3, G3, t3.er, ?_⟩
        have v3 : Evo H1 M1 G1 H3 M3 G3 [] := (v'.trans e1.hot v2).trans e1.hot t3.evo
        have vv : Evo H M G H3 M3 G3 [] := v1.trans e.hot v3
        have pin3 : io = true → σ3[0]? = σ[0]? := fun z => (t3.pin z).trans (pin' z)
        cases hb : body r3 with
        | nx r4 =>
          rw [hb] at h'
          exact fun σ4 H4 M4 G4 p => ⟨r4, M4, G4, p.er, v3.trans e1.hot p.ev, fun z => (p.pin z).trans (pin3 z), h'⟩
        | ct r4 =>
          rw [hb] at h'
          exact fun σ4 H4 M4 G4 p => ⟨r4, M4, G4, p.er, v3.trans e1.hot p.ev, fun z => (p.pin z).trans (pin3 z), h'⟩
        | bk r4 =>
          rw [hb] at h'
          exact fun σ4 H4 M4 G4 p => h' σ4 H4 M4 G4 ⟨p.er, vv.trans e.hot p.ev, fun z => (p.pin z).trans (pin3 z)⟩
        | rt xm r4 =>
          rw [hb] at h'
          exact sEnd.back (D := D) e.hot vv pin3 (o := .rt xm r4) h'
        | ex c fs r4 =>
          rw [hb] at h'
          exact sEnd.back (D := D) e.hot vv pin3 (o := .ex c fs r4) h'
        | no => rw [hb] at h'; exact h'
    · have he : i = xs.length := by omega
      subst he
      rw [List.drop_length] at h'
      exact .inl ⟨so.stop M' H' f', h' σ' H' M' G' ⟨e', v1.trans e.hot v', pin'⟩⟩
def whN (c : Ev → Ou Bool) (body : Ev → So) : Nat → Ev → So
  | 0, _ => .no
  | n + 1, r => match c r with
    | .ok false r1 => .nx r1
    | .ok true r1 => match body r1 with
      | .nx r2 => whN c body n r2
      | .ct r2 => whN c body n r2
      | .bk r2 => .nx r2
      | .rt x r2 => .rt x r2
      | .ex c fs r2 => .ex c fs r2
      | .no => .no
    | .ex c fs r1 => .ex c fs r1
    | .no => .no
def FUEL : Nat := 100000
def sWh (c : Ev → Ou Bool) (body : Ev → So) : Ev → So := fun r => whN c body FUEL r
theorem tIS_wh {c : Ev → Ou Bool} {body : Ev → So} (h : tIS K cl W io (sWh c body) D σ H) : tWhile (tIB K cl W c) (tIS K cl W io body) D σ H := by
  obtain ⟨r, M, G, e, h⟩ := h
  refine ⟨fun m σ' H' => ∃ r' M' G', ER K r' σ' G' M' H' ∧ Evo H M G H' M' G' [] ∧ (io = true → σ'[0]? = σ[0]?) ∧ sEnd K cl W io D σ H M G (whN c body m r'), ⟨FUEL, r, M, G, e, .refl, fun _ => rfl, h⟩, ?_⟩
  rintro m σ' H' ⟨r', M', G', e', v', pin', h'⟩
  refine ⟨r', M', G', e', ?_⟩
  cases m with
  | zero => exact h'.elim
  | succ m =>
    simp only [whN] at h'
    cases hc : c r' with
    | no => rw [hc] at h'; exact h'
    | ex c fs r2 =>
      rw [hc] at h'
      exact fun d H2 M2 G2 p => h' d σ' H2 M2 G2 ⟨⟨p.er, v'.trans e.hot p.ev, p.xd⟩, pin'⟩
    | ok k r2 =>
      rw [hc] at h'
      intro H2 M2 G2 e2 v2
      have v3 := v'.trans e.hot v2
      cases k with
      | false =>
        rw [if_neg Bool.false_ne_true]
        exact h' σ' H2 M2 G2 ⟨e2, v3, pin'⟩
      | true =>
        rw [if_pos rfl]
        refine ⟨_, fun σ4 H4 q => ⟨m, Nat.lt_succ_self _, q⟩, r2, M2, G2, e2, ?_⟩
        simp only at h'
        cases hb : body r2 with
        | nx r4 =>
          rw [hb] at h'
          exact fun σ4 H4 M4 G4 p => ⟨r4, M4, G4, p.er, v3.trans e.hot p.ev, fun z => (p.pin z).trans (pin' z), h'⟩
        | ct r4 =>
          rw [hb] at h'
          exact fun σ4 H4 M4 G4 p => ⟨r4, M4, G4, p.er, v3.trans e.hot p.ev, fun z => (p.pin z).trans (pin' z), h'⟩
        | bk r4 =>
          rw [hb] at h'
          exact fun σ4 H4 M4 G4 p => h' σ4 H4 M4 G4 ⟨p.er, v3.trans e.hot p.ev, fun z => (p.pin z).trans (pin' z)⟩
        | rt xm r4 =>
          rw [hb] at h'
          exact sEnd.back (D := D) e.hot v3 pin' (o := .rt xm r4) h'
        | ex c fs r4 =>
          rw [hb] at h'
          exact sEnd.back (D := D) e.hot v3 pin' (o := .ex c fs r4) h'
        | no => rw [hb] at h'; exact h'
end
section
variable {X : Cx} {cl : Str → Addr} {W : WX} {io : Bool}
theorem tgs_nil {K : PySem.W.Frag} : TgsOk K io gNil [] := .nil
theorem tgs_c {K : PySem.W.Frag} {g : TG} {gs : TGs} {t : Vl → Ev → Option Ev} {ts : List (Vl → Ev → Option Ev)} (h : TgOk K io g t) (q : TgsOk K io gs ts) : TgsOk K io (gCons g gs) (t :: ts) := .cons h q
def JI (X : Cx) (cl : Str → Addr) (W : WX) (tg iter : Expr) (s : Ev → Ou (List Dt)) : Prop := Takes X W → PI X tg iter (tII X.K cl W s)
theorem _root_.L2.PI.yimp {X : Cx} {tg e : Expr} {t t' : TI} (h : PI X tg e t) (k : ∀ σ H R, t' σ H R → t σ H R) : PI X tg e t' := ⟨fun pins s σ H R I q => h.run pins s σ H R I (k σ H R q)⟩
theorem js_for {tg iter : Expr} {body : List Stmt} {s : Ev → Ou (List Dt)} {g : TG} {t : Vl → Ev → Option Ev} {f : Ev → So} {pos : Pos} (hp : PassesOwn (model X.prog X.w) X.A X.env X.xe) (hc : X.calm = true) (hi : JI X cl W tg iter s) (hg : PG X tg g) (ht : TgOk X.K io g t) (hb : JB X cl W io body f)
    (hs : ∀ x, foldedSetIterable iter X.env x = pure x := by intro _; rfl) : JS X cl W io (.For tg iter body [] pos) (sFor s t f) := fun tk => (ps_for hp hc (hi tk) hg (hb tk) hs).yimp fun _ _ _ q => tIS_for ht q
theorem js_while {c : Expr} {body : List Stmt} {fc : Ev → Ou Bool} {f : Ev → So} {pos : Pos} (hp : PassesOwn (model X.prog X.w) X.A X.env X.xe) (hc : JT X cl W c fc) (hb : JB X cl W io body f) : JS X cl W io (.While c body [] pos) (sWh fc f) := fun tk =>
  (ps_while hp (hc tk) (hb tk)).yimp fun _ _ _ q => tIS_wh q
end
end Y
namespace Y
open PySem L2
section
variable {K : PySem.W.Frag} {cl : Str → Addr} {W : WX} {io : Bool} {M M' M0 : Addr → Prop} {H H' H0 : Hp} {G G' G0 : Nat → List Addr} {r r' : Ev} {σ σ0 : L2.St} {D : Ends}
def wipeE (r : Ev) : List Nat → Ev
  | [] => r
  | v :: vs => (wipeE r vs).set v none
theorem wipeE_at : ∀ {vs : List Nat} {i : Nat} {x : Vl}, (wipeE r vs)[i]? = some (some x) → r[i]? = some (some x) ∧ i ∉ vs
  | [], _, _, h => ⟨h, by simp⟩
  | v :: vs, i, x, h => by
    simp only [wipeE] at h
    by_cases q : v = i
    · subst q
      by_cases hl : v < (wipeE r vs).length
      · rw [List.getElem?_set_self hl] at h; cases h
      · rw [List.getElem?_eq_none (by simpa using hl)] at h; cases h
    · rw [List.getElem?_set_ne q] at h
      obtain ⟨h1, h2⟩ := wipeE_at h
      exact ⟨h1, by simp only [List.mem_cons, not_or]; exact ⟨fun z => q z.symm, h2⟩⟩
/-- the same, where slots that hold nothing are told otherwise -/
theorem ER.slots {σ' : L2.St} (e : ER K r σ G M H) (hl : σ'.length = σ.length) (h : ∀ (i : Nat) (x : Vl) (v : V), r[i]? = some (some x) → σ[i]? = some (some v) → σ'[i]? = some (some v)) : ER K r σ' G M H :=
  ⟨e.len.trans hl.symm, fun i x m q => let ⟨v, h1, h2⟩ := e.at_ i x m q; ⟨v, h i _ v q h1, h2⟩, e.emp, e.nd, e.dj, e.sub, e.hot, e.tab⟩
theorem ER.drops (e : ER K r σ G M H) : ∀ (vs : List Nat), ER K (wipeE r vs) σ (fun i => if i ∈ vs then [] else G i) M H
  | [] => by simpa [wipeE] using e
  | v :: vs => by
    have e2 := (ER.drops e vs).drop v
    have g : (fun j => if j = v then ([] : List Addr) else if j ∈ vs then [] else G j) = fun i => if i ∈ v :: vs then [] else G i := by
      funext j
      by_cases q : j = v
      · simp [q]
      · by_cases q2 : j ∈ vs <;> simp [q, q2]
    rw [g] at e2
    exact e2
theorem ER.wipe (e : ER K r σ G M H) (vs : List Nat) : ER K (wipeE r vs) (wipe σ vs) (fun i => if i ∈ vs then [] else G i) M H :=
  (e.drops vs).slots (wipe_length σ vs) fun i x v h1 h2 => by
    obtain ⟨_, q⟩ := wipeE_at h1
    rw [wipe_out q]; exact h2
theorem evo_drops (vs : List Nat) : Evo H M G H M (fun i => if i ∈ vs then [] else G i) [] :=
  ⟨fun _ _ h _ => h, fun _ h => h, fun _ h => .inl h, fun _ h _ => h, fun i b hb => .inl ⟨i, by
    by_cases q : i ∈ vs
    · simp [q] at hb
    · simpa [q] using hb⟩, fun _ z => nomatch z⟩
/-- behind the block: what its own names meant outside, where nobody owned it -/
def rsE (r0 : Ev) : List Nat → Ev → Ev
  | [], r => r
  | v :: vs, r => match r0[v]? with
    | some (some (x, m)) => if x.flat || m == .c then (rsE r0 vs r).set v (some (x, .c)) else rsE r0 vs r
    | _ => rsE r0 vs r
theorem ER.restore {M2 : Addr → Prop} {H2 : Hp} {G2 : Nat → List Addr} (e0 : ER K r' σ G' M' H') (f : Fm M' H' M2 H2) : ∀ (vs : List Nat) {r : Ev}, (∀ v ∈ vs, ∀ x, r[v]? ≠ some (some x)) → ER K r σ G2 M2 H2 → ER K (rsE r' vs r) σ G2 M2 H2
  | [], r, _, e => e
  | v :: vs, r, hn, e => by
    have ih := ER.restore (G2 := G2) e0 f vs (fun u hu => hn u (List.mem_cons_of_mem _ hu)) e
    simp only [rsE]
    cases h0 : r'[v]? with
    | none => exact ih
    | some o =>
      cases o with
      | none => exact ih
      | some xm =>
        obtain ⟨x, m⟩ := xm
        simp only
        by_cases hx : (x.flat || m == .c) = true
        · rw [if_pos hx]
          obtain ⟨w, hw, rp⟩ := e0.at_ v x m h0
          have c : Co K M' H' w x := by
            rw [Bool.or_eq_true] at hx
            rcases hx with hx | hx
            · have := rp.flatAny (M' := M') hx
              cases m with
              | c => exact this.1
              | t => obtain ⟨a, us, xs, rfl, rfl, _⟩ := this; simp [Dt.flat] at hx
              | a => exact Ho.cold this (by rw [Ho.flatE this hx]; exact fun _ z => nomatch z)
            · have hx : m = .c := by simpa using hx
              subst hx
              exact rp.1
          have gv : G2 v = [] := e.emp v fun x m q => hn v List.mem_cons_self (x, m) q
          have e3 := ih.put (i := v) (v := w) (x := x) (m := .c) (F := []) ⟨c.fm f, rfl⟩ List.nodup_nil (fun _ z => nomatch z) (List.getElem?_eq_some_iff.mp hw).1
          rw [set_id hw] at e3
          have g : (fun j => if j = v then ([] : List Addr) else G2 j) = G2 := by
            funext j
            by_cases q : j = v
            · simp [q, gv]
            · simp [q]
          rw [g] at e3
          exact e3
        · rw [if_neg hx]; exact ih
/-- the tests: all of them | one -/
def lcL (vs : List Nat) (t : Vl → Ev → Option Ev) (c : Ev → Ou Bool) (f : Ev → Ou Vl) (own : Bool) : List Dt → Ev → List Dt → Ou (List Dt)
  | [], r, acc => .ok acc r
  | x :: xs, r, acc => match t (x, .c) r with
    | none => .no
    | some r1 => match c r1 with
      | .ok false r2 => lcL vs t c f own xs (wipeE r2 vs) acc
      | .ok true r2 => match f r2 with
        | .ok (y, m) r3 => if own && !zfl (y, m) then .no else lcL vs t c f own xs (wipeE r3 vs) (acc ++ [y])
        | _ => .no
      | _ => .no
def mLc (own : Bool) (vs : List Nat) (s : Ev → Ou (List Dt)) (t : Vl → Ev → Option Ev) (c : Ev → Ou Bool) (f : Ev → Ou Vl) : Ev → Ou Vl := fun r => match s r with
  | .ok xs r1 => if xs.length ≤ LIM then
      match lcL vs t c f own xs (wipeE r1 vs) [] with
      | .ok ys r2 => .ok (.l ys, if own then .a else .t) (rsE r1 vs r2)
      | _ => .no
    else .no
  | .ex c fs r1 => .ex c fs r1
  | .no => .no
theorem HoL.snoc : ∀ {vs : List V} {xs : List Dt} {F F' : List Addr} {v : V} {x : Dt}, HoL K H vs xs F → Ho K H v x F' → HoL K H (vs ++ [v]) (xs ++ [x]) (F ++ F')
  | _, _, _, _, _, _, .nil, h => by
    have := HoL.cons h .nil
    rw [List.append_nil] at this
    exact this
  | _, _, _, _, _, _, .cons a b, h => by
    rw [List.append_assoc]
    exact .cons a (HoL.snoc b h)
theorem CoL.snoc : ∀ {vs : List V} {xs : List Dt} {v : V} {x : Dt}, CoL K M H vs xs → Co K M H v x → CoL K M H (vs ++ [v]) (xs ++ [x])
  | _, _, _, _, .nil, h => .cons h .nil
  | _, _, _, _, .cons a b, h => .cons a (CoL.snoc b h)
/-- the list that grows: of cold items | of owned ones -/
def Acc (K : PySem.W.Frag) (M : Addr → Prop) (H : Hp) (own : Bool) (p : Addr) (xs : List Dt) (F : List Addr) : Prop :=
  Rp K M H (if own then .a else .t) (.ref p) (.l xs) F ∧ p ∈ F
theorem Acc.at_ {own : Bool} {p : Addr} {xs : List Dt} {F : List Addr} (h : Acc K M H own p xs F) : ∃ vs F', H p = some (.lst vs) ∧ F = p :: F' ∧ vs.length = xs.length ∧ (own = true → HoL K H vs xs F') ∧ (own = false → CoL K M H vs xs ∧ F' = []) := by
  obtain ⟨h, hp⟩ := h
  cases own with
  | true =>
    have h : Ho K H (.ref p) (.l xs) F := h
    cases h with
    | @l a vs _ F e q =>
      have hl : ∀ {vs : List V} {xs : List Dt} {F : List Addr}, HoL K H vs xs F → vs.length = xs.length := fun h => by
        induction h using HoL.rec (motive_1 := fun _ _ _ _ => True) with
        | nil => rfl
        | cons _ _ _ ih => simp [ih]
        | _ => trivial
      exact ⟨vs, F, e, rfl, hl q, fun _ => q, fun z => nomatch z⟩
  | false =>
    obtain ⟨a, vs, ys, h1, h2, rfl, e, c⟩ := h
    cases h1
    cases h2
    exact ⟨vs, [], e, rfl, c.len, fun z => (nomatch z), fun _ => ⟨c, rfl⟩⟩
theorem wipe_at (σ : L2.St) : ∀ (vs : List Nat) (j : Nat), (wipe σ vs)[j]? = if j ∈ vs then (if j < σ.length then some none else none) else σ[j]?
  | [], j => by simp [wipe]
  | v :: vs, j => by
    show ((wipe σ vs).set v none)[j]? = _
    by_cases q : v = j
    · subst q
      by_cases hl : v < σ.length
      · rw [List.getElem?_set_self (by rw [wipe_length]; exact hl)]; simp [hl]
      · rw [List.getElem?_eq_none (by simp [wipe_length]; omega)]; simp [hl]
    · rw [List.getElem?_set_ne q, wipe_at σ vs j]
      have : j ≠ v := Ne.symm q
      simp [this]
theorem wipe_set {σ : L2.St} {i : Nat} {x : Option V} {vs : List Nat} (hi : i ∈ vs) : wipe (σ.set i x) vs = wipe σ vs := by
  apply List.ext_getElem?
  intro j
  rw [wipe_at, wipe_at]
  by_cases q : j ∈ vs
  · simp [q]
  · simp only [if_neg q]
    rw [List.getElem?_set_ne (fun z => q (by rw [← z]; exact hi))]
theorem wipe_wipe {σ : L2.St} {vs : List Nat} : wipe (wipe σ vs) vs = wipe σ vs := by
  apply List.ext_getElem?
  intro j
  rw [wipe_at, wipe_at]
  by_cases q : j ∈ vs
  · simp [q, wipe_length]
  · simp only [if_neg q]
/-- a target that stores to a block's own names alone -/
def TgW (g : TG) (vs : List Nat) : Prop := ∀ v σ H (Q Q' : L2.St → Hp → Prop), (∀ σ' H', wipe σ' vs = wipe σ vs → Q σ' H' → Q' σ' H') → g v σ H Q → g v σ H Q'
def TgsW (g : TGs) (vs : List Nat) : Prop := ∀ xs σ H (Q Q' : L2.St → Hp → Prop), (∀ σ' H', wipe σ' vs = wipe σ vs → Q σ' H' → Q' σ' H') → g xs σ H Q → g xs σ H Q'
theorem tw_name {i : Nat} {vs : List Nat} (hi : i ∈ vs) : TgW (gName i) vs := fun v σ H Q Q' h q => h _ _ (wipe_set hi) q
theorem tws_nil {vs : List Nat} : TgsW gNil vs := fun xs σ H Q Q' h q => ⟨q.1, h _ _ rfl q.2⟩
theorem tws_c {vs : List Nat} {g : TG} {gs : TGs} (h : TgW g vs) (q : TgsW gs vs) : TgsW (gCons g gs) vs := fun xs σ H Q Q' k ⟨v, r, e, z⟩ =>
  ⟨v, r, e, h v σ H _ _ (fun σ1 H1 e1 q1 => q r σ1 H1 _ _ (fun σ2 H2 e2 q2 => k σ2 H2 (e2.trans e1) q2) q1) z⟩
theorem tw_tup {vs : List Nat} {gs : TGs} {n : Nat} (q : TgsW gs vs) : TgW (gTupA K n gs) vs := fun v σ H Q Q' k z => z.imp (fun ⟨a, xs, h1, h2, h3, h4⟩ => ⟨a, xs, h1, h2, h3, q xs σ H Q Q' k h4⟩) fun ⟨a, xs, h1, h2, h3, h4⟩ => ⟨a, xs, h1, h2, h3, q xs σ H Q Q' k h4⟩
abbrev W0 : WX := fun _ _ _ _ => False
theorem PX.keeps {v : V} {x : Dt} {m : Md} {F : List Addr} {M1 : Addr → Prop} {H1 : Hp} {G1 : Nat → List Addr} {r2 : Ev} {σ2 : L2.St} (ht : Hotty M H) (p : PX K r σ H M G v x m H' M' G' F) {F2 : List Addr} (e2 : ER K r2 σ2 G1 M1 H1) (ev : Evo H' M' G' H1 M1 G1 F2) :
    PX K r2 σ2 H M G v x m H1 M1 G1 F ∧ ∀ b ∈ F, b ∉ F2 := by
  obtain ⟨a, b, c⟩ := p.rp.evo p.hot p.er ev
  have v0 := p.ev
  have vt : Evo H M G H1 M1 G1 F := by
    have v1 : Evo H M G H' M' G' [] := ⟨v0.pres', v0.dom, v0.grow, v0.keep, v0.env, fun _ z => nomatch z⟩
    have v2 := v1.trans ht ev
    exact ⟨v2.pres', v2.dom, v2.grow, v2.keep, v2.env, v0.res⟩
  exact ⟨⟨e2, vt, a, p.nd, b⟩, c⟩
theorem mLc_ok {own : Bool} {vs : List Nat} {s : Ev → Ou (List Dt)} {t : Vl → Ev → Option Ev} {c : Ev → Ou Bool} {f : Ev → Ou Vl} {g : TG} {Q : VK} (hg : TgOk K false g t) (hw : TgW g vs) (h : tI K cl W (mLc own vs s t c f) σ H Q) :
    tLc (tII K cl W s) g (tIB K cl W0 c) (tI K cl W0 f) vs σ H Q := by
  obtain ⟨r, M, G, e, h⟩ := h
  refine ⟨r, M, G, e, ?_⟩
  simp only [mLc] at h
  cases hs : s r with
  | no => rw [hs] at h; exact h
  | ex c fs r' => rw [hs] at h; exact h
  | ok xs r1 =>
    rw [hs] at h
    simp only at h
    by_cases hz : xs.length ≤ LIM
    case neg => rw [if_neg hz] at h; exact fun _ _ _ _ _ _ _ => h.elim
    rw [if_pos hz] at h
    cases hL : lcL vs t c f own xs (wipeE r1 vs) [] with
    | no => rw [hL] at h; exact fun _ _ _ _ _ _ _ => h.elim
    | ex c fs r' => rw [hL] at h; exact fun _ _ _ _ _ _ _ => h.elim
    | ok ys r2 =>
    rw [hL] at h
    simp only at h
    intro J H1 M1 G1 e1 v1 so D hD
    have ew := e1.wipe vs
    have vw : Evo H1 M1 G1 H1 M1 (fun i => if i ∈ vs then [] else G1 i) [] := evo_drops vs
    refine ⟨fun i m H' => m = xs.length - i ∧ i ≤ xs.length ∧ ∃ r' M' G' acc F, PX K r' (wipe σ vs) H1 M1 G1 (.ref D) (.l acc) (if own then .a else .t) H' M' G' F ∧ acc.length ≤ i ∧ (∀ j ∈ vs, ∀ x, r'[j]? ≠ some (some x)) ∧ lcL vs t c f own (xs.drop i) r' acc = .ok ys r2, ⟨xs.length, by simp, Nat.zero_le _, ?_⟩, ?_⟩
    · -- the start
      have p0 : Mk K H1 M1 (.ref D) (.l []) (if own then .a else .t) (upd H1 D (.lst [])) [D] := by
        have q := mk_lst (K := K) ew.hot hD .nil
        refine ⟨q.same, q.new, q.nd, ?_⟩
        cases own with
        | true => exact Ho.l upd_same .nil
        | false => exact q.rp
      obtain ⟨e', v', nM⟩ := p0.env ew
      exact ⟨_, _, _, [], [D], ⟨e', vw.trans e1.hot v', p0.rp, p0.nd, fun b hb => ⟨.inr hb, fun i hi => nM b hb (ew.sub i b hi)⟩⟩, Nat.le_refl _, fun j hj x q => (wipeE_at q).2 hj, by simpa using hL⟩
    · rintro i m H' ⟨rfl, hi, r', M', G', acc, F, p, hacc, hn, hl⟩
      have f' := e1.fm p.ev
      by_cases hlt : i < xs.length
      case neg =>
        have he : i = xs.length := by omega
        subst he
        rw [List.drop_length] at hl
        simp only [lcL, Ou.ok.injEq] at hl
        obtain ⟨rfl, rfl⟩ := hl
        refine .inl ⟨so.stop M' H' f', h _ H' M' G' F ⟨?_, ?_, p.rp, p.nd, p.hot⟩⟩
        · refine ER.restore e1 f' vs hn (p.er.slots (wipe_length σ vs).symm fun j x v h1 h2 => ?_)
          rw [wipe_at] at h2
          by_cases q : j ∈ vs
          · exact absurd h1 (hn j q x)
          · simpa [q] using h2
        · have := v1.trans e.hot p.ev
          exact this
      refine .inr ⟨so.go i M' H' hlt f', _, fun H2 q => ⟨xs.length - (i + 1), by omega, rfl, hlt, q⟩, fun v H2 y => ?_⟩
      have hx : xs[i]? = some xs[i] := by simp [hlt]
      obtain ⟨hgr, co⟩ := so.yld i xs[i] v M' H' H2 hx f' p.er.hot y
      obtain ⟨e2, v2⟩ := p.er.grown hgr
      obtain ⟨p2, _⟩ := p.keeps e1.hot e2 v2
      rw [List.drop_eq_getElem_cons hlt] at hl
      simp only [lcL] at hl
      cases hk : t (xs[i], .c) r' with
      | none => rw [hk] at hl; cases hl
      | some r3 =>
      rw [hk] at hl
      simp only at hl
      refine hw v (wipe σ vs) H2 (fun σ3 H3 => ∃ M3 G3, Tx K false r3 (wipe σ vs) σ3 H2 M' G' H3 M3 G3) _ (fun σ3 H3 we ⟨M3, G3, t3⟩ => ?_) (hg.cold e2 co hk fun σ3 H3 M3 G3 t3 => ⟨M3, G3, t3⟩)
      rw [wipe_wipe] at we
      refine ⟨we, r3, M3, G3, t3.er, ?_⟩
      obtain ⟨p3, _⟩ := p2.keeps e1.hot t3.er t3.evo
      cases hc : c r3 with
      | no => rw [hc] at hl; cases hl
      | ex c fs r4 => rw [hc] at hl; cases hl
      | ok k r4 =>
      rw [hc] at hl
      intro H4 M4 G4 e4 v4
      obtain ⟨p4, _⟩ := p3.keeps e1.hot e4 v4
      cases k with
      | false =>
        rw [if_neg Bool.false_ne_true]
        simp only at hl
        have e5 := e4.wipe vs
        rw [we] at e5
        obtain ⟨p5, _⟩ := p4.keeps e1.hot e5 (evo_drops vs)
        exact ⟨_, _, _, acc, F, p5, by omega, fun j hj x q => (wipeE_at q).2 hj, hl⟩
      | true =>
        rw [if_pos rfl]
        simp only at hl
        refine ⟨r4, M4, G4, e4, ?_⟩
        cases hf : f r4 with
        | no => rw [hf] at hl; cases hl
        | ex c fs r5 => rw [hf] at hl; cases hl
        | ok ym r5 =>
        obtain ⟨y, my⟩ := ym
        rw [hf] at hl
        simp only at hl
        intro w H5 M5 G5 F5 q5
        obtain ⟨p5, dis⟩ := p4.keeps e1.hot q5.er q5.ev
        have mem : D ∈ F := by
          cases own with
          | true =>
            have z : Ho K H5 (.ref D) (.l acc) F := p5.rp
            cases z with
            | l _ _ => exact List.mem_cons_self
          | false =>
            obtain ⟨a, us, zs, h1, _, h3, _⟩ := p5.rp
            cases h1
            rw [h3]
            exact List.mem_cons_self
        obtain ⟨us, F', hD5, hF, hul, ho1, ho2⟩ := Acc.at_ (own := own) ⟨p5.rp, mem⟩
        have hown : own = true → zfl (y, my) = true := fun z => by
          by_cases q : (own && !zfl (y, my)) = true
          · rw [if_pos q] at hl; cases hl
          · simp only [z, Bool.true_and, Bool.not_eq_true', Bool.not_eq_false] at q
            exact q
        have hl' : lcL vs t c f own (xs.drop (i + 1)) (wipeE r5 vs) (acc ++ [y]) = .ok ys r2 := by
          by_cases q : (own && !zfl (y, my)) = true
          · rw [if_pos q] at hl; cases hl
          · rw [if_neg q] at hl; exact hl
        refine ⟨us, hD5, by rw [hul]; exact Nat.lt_of_le_of_lt hacc (Nat.lt_of_lt_of_le hlt (lim_size hz)), wipeE r5 vs, fun b => M5 b ∧ (own = false → b ∉ F5), fun j => if j ∈ vs then [] else G5 j, acc ++ [y], F ++ (if own then F5 else []), ?_, by simp; omega, fun j hj x q => (wipeE_at q).2 hj, hl'⟩
        have hDM : M5 D ∧ ∀ j, D ∉ G5 j := p5.hot D mem
        have hDF : D ∉ F5 := dis D mem
        -- the list's cell changes: all else stays
        have stay : ∀ b o, H5 b = some o → b ≠ D → upd H5 D (.lst (us ++ [w])) b = some o := fun b o h q => by rw [upd_ne q]; exact h
        have ew5 := q5.er.wipe vs
        rw [we] at ew5
        have gsub : ∀ j b, b ∈ (fun j => if j ∈ vs then [] else G5 j) j → b ∈ G5 j := fun j b hb => by
          by_cases q : j ∈ vs
          · simp [q] at hb
          · simpa [q] using hb
        have fm6 : Fm M5 H5 (fun b => M5 b ∧ (own = false → b ∉ F5)) (upd H5 D (.lst (us ++ [w]))) := ⟨fun b o h hn => stay b o h fun z => hn (by rw [z]; exact hDM.1), fun b z => .inl z.1, q5.er.hot⟩
        have e6 : ER K (wipeE r5 vs) (wipe σ vs) (fun j => if j ∈ vs then [] else G5 j) (fun b => M5 b ∧ (own = false → b ∉ F5)) (upd H5 D (.lst (us ++ [w]))) :=
          ew5.evoF (fun b o h z => stay b o h fun q => by
            rcases z with z | ⟨j, z⟩
            · exact z (by rw [q]; exact hDM.1)
            · exact hDM.2 j (by rw [← q]; exact gsub j b z)) (fun b z => .inl z.1) (fun j b hb => ⟨q5.er.sub j b (gsub j b hb), fun _ z => (q5.hot b z).2 j (gsub j b hb)⟩) fun b z => by
            by_cases q : b = D
            · rw [q]; exact ⟨_, upd_same, trivial⟩
            · rw [upd_ne q]; exact q5.er.hot b z.1
        have tupS : ∀ b zs, Rd H5 b (.tup zs) → Rd (upd H5 D (.lst (us ++ [w]))) b (.tup zs) := fun b zs z => by
          have nb : b ≠ D := fun q => by
            rw [q] at z
            rcases z with z | ⟨o, z⟩ <;> (rw [hD5] at z; cases z)
          rcases z with z | ⟨o, z⟩
          · exact .inl (stay b _ z nb)
          · exact .inr ⟨o, stay b _ z nb⟩
        have v5 : Evo H1 M1 G1 H5 M5 G5 (F ++ F5) := by
          have v6 : Evo H1 M1 G1 H4 M4 G4 [] := ⟨p4.ev.pres', p4.ev.dom, p4.ev.grow, p4.ev.keep, p4.ev.env, fun _ z => nomatch z⟩
          have v7 := v6.trans e1.hot q5.ev
          exact ⟨v7.pres', v7.dom, v7.grow, v7.keep, v7.env, fun b hb => (List.mem_append.mp hb).elim (p5.ev.res b) (v7.res b)⟩
        have newD : H1 D = none := hD
        refine ⟨e6, ⟨fun b o h hb => stay b o (v5.pres b o h hb) fun q => (by rw [q, newD] at h; cases h), fun b h => ?_, fun b z => v5.grow b z.1, fun b h hb => ⟨v5.keep b h hb, fun _ z => ?_⟩, fun j b hb => v5.env j b (gsub j b hb), fun b hb => v5.res b ?_⟩, ?_, ?_, fun b hb => ?_⟩
        · by_cases q : b = D
          · rw [q, upd_same] at h; cases h
          · rw [upd_ne q] at h; exact v5.dom b h
        · rcases v5.res b (List.mem_append_right _ z) with ⟨j, q⟩ | q
          · exact hb j q
          · obtain ⟨zs, q2, _⟩ := e1.hot b h
            rw [q2] at q; cases q
        · rcases List.mem_append.mp hb with hb | hb
          · exact List.mem_append_left _ hb
          · cases own with
            | true => exact List.mem_append_right _ (by simpa using hb)
            | false => simp at hb
        · -- the grown list
          cases own with
          | true =>
            have hoy : Ho K H5 w y F5 := q5.rp.toA (hown rfl)
            have h6 := (ho1 rfl).snoc hoy
            show Ho K _ (.ref D) (.l (acc ++ [y])) _
            rw [hF]
            show Ho K _ (.ref D) (.l (acc ++ [y])) (D :: (F' ++ F5))
            refine .l upd_same (h6.stay tupS (fun b o u z => stay b _ z fun q => by rw [q, hD5] at z; cases z) fun b hb => upd_ne fun q => ?_)
            rw [q] at hb
            rcases List.mem_append.mp hb with hb | hb
            · have nd := p5.nd
              rw [hF] at nd
              exact (List.nodup_cons.mp nd).1 hb
            · exact hDF hb
          | false =>
            obtain ⟨c5, hF'⟩ := ho2 rfl
            have cw : Co K (fun b => M5 b ∧ (false = false → b ∉ F5)) H5 w y := q5.rp.cold q5.er.hot (fun b hb z => z.2 rfl hb) fun b z => z.1
            refine ⟨D, us ++ [w], acc ++ [y], rfl, rfl, by rw [hF, hF']; rfl, upd_same, (c5.fm fm6).snoc (cw.fm ⟨fun b o h hn => stay b o h fun q => hn (by rw [q]; exact ⟨hDM.1, fun _ => hDF⟩), fun b z => .inl z, fun b z => q5.er.hot b z.1⟩)⟩
        · cases own with
          | true =>
            simp only [if_true]
            refine List.nodup_append.mpr ⟨p5.nd, q5.nd, fun a ha b hb q => dis a ha (by rw [q]; exact hb)⟩
          | false => simpa using p5.nd
        · rcases List.mem_append.mp hb with hb | hb
          · exact ⟨⟨(p5.hot b hb).1, fun _ => dis b hb⟩, fun j hj => (p5.hot b hb).2 j (gsub j b hj)⟩
          · cases own with
            | true =>
              have hb : b ∈ F5 := by simpa using hb
              exact ⟨⟨(q5.hot b hb).1, fun z => nomatch z⟩, fun j hj => (q5.hot b hb).2 j (gsub j b hj)⟩
            | false => simp at hb
end
end Y
namespace Y
open PySem L2 PyProof.Rows
section
variable {X : Cx} {cl : Str → Addr} {W : WX} {io : Bool}
def mYes : Ev → Ou Bool := fun r => .ok true r
theorem _root_.L2.PTs.yimp {X : Cx} {e : List Expr} {t t' : TT} (h : PTs X e t) (k : ∀ σ H Q, t' σ H Q → t σ H Q) : PTs X e t' := ⟨fun pins s σ H Q I q => h.run pins s σ H Q I (k σ H Q q)⟩
theorem jts_nil : PTs X [] (tIB X.K cl W mYes) := pts_nil.yimp fun σ H Q ⟨r, M, G, e, q⟩ => q H M G e .refl
theorem jts_one {c : Expr} {f : Ev → Ou Bool} (h : JT X cl W0 c f) : PTs X [c] (tIB X.K cl W0 f) := pts_one (h takes0)
theorem je_lc {elt tg iter : Expr} {ifs : List Expr} {scope : Scope} {own : List (Str × Nat)} {pos : Pos} {s : Ev → Ou (List Dt)} {g : TG} {t : Vl → Ev → Option Ev} {c : Ev → Ou Bool} {f : Ev → Ou Vl} (b : Bool) (hc : X.calm = true) (hN : X.N.Nodup) (hi : JI X cl W tg iter s) (ok : BlkOk X.N X.env.scope scope own)
    (hg : ∀ (s : Shared) (H : Hp) (C : Addr) (cl : List (Str × Addr)) (fp : List Addr), PG (X.blk s H scope (compEnvC scope cl C X.env) fp) tg g) (hgt : TgOk X.K false g t) (hgw : TgW g (own.map (·.2)))
    (ht : ∀ (s : Shared) (H : Hp) (C : Addr) (cl2 : List (Str × Addr)) (fp : List Addr), PTs (X.blk s H scope (compEnvC scope cl2 C X.env) fp) ifs (tIB X.K cl W0 c))
    (he : ∀ (s : Shared) (H : Hp) (C : Addr) (cl2 : List (Str × Addr)) (fp : List Addr), JE (X.blk s H scope (compEnvC scope cl2 C X.env) fp) cl W0 elt f) (hs : ∀ x, foldedSetIterable iter X.env x = pure x := by intro _; rfl) :
    JE X cl W (.ListComp elt [⟨tg, iter, ifs, 0⟩] scope pos) (mLc b (own.map (·.2)) s t c f) := fun tk =>
  (pe_lc hc hN (hi tk) ok hg ht (fun s H C cl2 fp => he s H C cl2 fp takes0) hs).yimp fun σ H Q q => mLc_ok hgt hgw q
theorem js_setLc {elt tg iter : Expr} {ifs : List Expr} {scope : Scope} {own : List (Str × Nat)} {pos spos : Pos} {i : Nat} {y : Str} {py : Pos} {s : Ev → Ou (List Dt)} {g : TG} {t : Vl → Ev → Option Ev} {c : Ev → Ou Bool} {f : Ev → Ou Vl} (b : Bool) (hc : X.calm = true) (hN : X.N.Nodup) (hy : X.N[i]? = some y) (hyl : X.env.scope.names.lookup y = some .local)
    (hsw : swapsWith (.ListComp elt [⟨tg, iter, ifs, 0⟩] scope pos) (some (.Name y py)) spos.line X.env = pure true) (hio : io = true → i ≠ 0) (hi : JI X cl W tg iter s) (ok : BlkOk X.N X.env.scope scope own)
    (hg : ∀ (s : Shared) (H : Hp) (C : Addr) (cl : List (Str × Addr)) (fp : List Addr), PG (X.blk s H scope (compEnvC scope cl C X.env) fp) tg g) (hgt : TgOk X.K false g t) (hgw : TgW g (own.map (·.2)))
    (ht : ∀ (s : Shared) (H : Hp) (C : Addr) (cl2 : List (Str × Addr)) (fp : List Addr), PTs (X.blk s H scope (compEnvC scope cl2 C X.env) fp) ifs (tIB X.K cl W0 c))
    (he : ∀ (s : Shared) (H : Hp) (C : Addr) (cl2 : List (Str × Addr)) (fp : List Addr), JE (X.blk s H scope (compEnvC scope cl2 C X.env) fp) cl W0 elt f) (hs : ∀ x, foldedSetIterable iter X.env x = pure x := by intro _; rfl) :
    JS X cl W io (.Assign [.Name y py] (.ListComp elt [⟨tg, iter, ifs, 0⟩] scope pos) spos) (sAsg (mLc b (own.map (·.2)) s t c f) (tgV i)) := fun tk =>
  (ps_setLc hc hN hy hyl hsw (hi tk) ok hg ht (fun s H C cl2 fp => he s H C cl2 fp takes0) hs).yimp fun D σ H q => asg_go (g := gName i) (tg_name hio) q |> fun z => mLc_ok hgt hgw z
end
section
variable {K : PySem.W.Frag} {cl : Str → Addr} {W : WX} {io : Bool} {M M' M0 : Addr → Prop} {H H' H0 : Hp} {G G' G0 : Nat → List Addr} {r r' : Ev} {σ σ0 : L2.St} {D : Ends}
def evH : List (Ev → Ou Vl) → Ev → Ou (List Vl)
  | [], r => .ok [] r
  | f :: fs, r => match f r with
    | .ok x r1 => match evH fs r1 with
      | .ok xs r2 => .ok (x :: xs) r2
      | .ex c fs r2 => .ex c fs r2
      | .no => .no
    | .ex c fs r1 => .ex c fs r1
    | .no => .no
inductive HL (K : PySem.W.Frag) (M : Addr → Prop) (H : Hp) : List V → List Vl → List Addr → Prop
  | nil : HL K M H [] [] []
  | cons {v : V} {vs : List V} {x : Dt} {m : Md} {xs : List Vl} {F F' : List Addr} : Rp K M H m v x F → HL K M H vs xs F' → HL K M H (v :: vs) ((x, m) :: xs) (F ++ F')
structure HX (K : PySem.W.Frag) (r' : Ev) (σ : L2.St) (H : Hp) (M : Addr → Prop) (G : Nat → List Addr) (vs : List V) (xs : List Vl) (H' : Hp) (M' : Addr → Prop) (G' : Nat → List Addr) (F : List Addr) : Prop where
  er : ER K r' σ G' M' H'
  ev : Evo H M G H' M' G' F
  hl : HL K M' H' vs xs F
  nd : F.Nodup
  hot : ∀ b ∈ F, M' b ∧ ∀ i, b ∉ G' i
theorem tOs_hold : ∀ (fs : List (Ev → Ou Vl)) {r : Ev} {M : Addr → Prop} {G : Nat → List Addr} {H : Hp} {k : List V → Hp → Prop}, ER K r σ G M H →
    (match evH fs r with
      | .ok xs r' => ∀ vs H' M' G' F, HX K r' σ H M G vs xs H' M' G' F → k vs H'
      | .ex c fs r' => ∀ d H' M' G', XX K r' σ H M G fs d H' M' G' → W (.ref (cl c)) d σ H'
      | .no => False) → tOs K cl W (fs.map .e) σ H k
  | [], r, M, G, H, k, e, h => h [] H M G [] ⟨e, .refl, .nil, List.nodup_nil, fun _ z => nomatch z⟩
  | f :: fs, r, M, G, H, k, e, h => by
    show tI K cl W f σ H _
    refine ⟨r, M, G, e, ?_⟩
    simp only [evH] at h
    cases hf : f r with
    | no => rw [hf] at h; exact h
    | ex c fs r1 => rw [hf] at h; exact h
    | ok xm r1 =>
      obtain ⟨x, m⟩ := xm
      rw [hf] at h
      intro v H1 M1 G1 F1 p
      refine tOs_hold fs p.er ?_
      simp only at h
      have v1 : Evo H M G H1 M1 G1 [] := ⟨p.ev.pres', p.ev.dom, p.ev.grow, p.ev.keep, p.ev.env, fun _ z => nomatch z⟩
      cases ha : evH fs r1 with
      | no => rw [ha] at h; exact h
      | ex c fs r2 =>
        rw [ha] at h
        exact fun d H3 M3 G3 q => h d H3 M3 G3 ⟨q.er, v1.trans e.hot q.ev, q.xd⟩
      | ok xs r2 =>
        rw [ha] at h
        intro vs H3 M3 G3 F3 q
        obtain ⟨p3, dis⟩ := p.keeps e.hot q.er q.ev
        have v3 := v1.trans e.hot q.ev
        refine h (v :: vs) H3 M3 G3 (F1 ++ F3) ⟨q.er, ⟨v3.pres', v3.dom, v3.grow, v3.keep, v3.env, fun b hb => (List.mem_append.mp hb).elim (p3.ev.res b) (v3.res b)⟩, .cons p3.rp q.hl, List.nodup_append.mpr ⟨p3.nd, q.nd, fun a ha b hb z => dis a ha (by rw [z]; exact hb)⟩, fun b hb => (List.mem_append.mp hb).elim (p3.hot b) (q.hot b)⟩
def putE : List Nat → List Vl → Ev → Option Ev
  | [], [], r => some r
  | i :: is, x :: xs, r => if i < r.length then putE is xs (r.set i (some x)) else none
  | _, _, _ => none
def putS : List Nat → List V → L2.St → L2.St
  | i :: is, v :: vs, σ => putS is vs (σ.set i (some v))
  | _, _, σ => σ
theorem HL.len : ∀ {vs : List V} {xs : List Vl} {F : List Addr}, HL K M H vs xs F → vs.length = xs.length
  | _, _, _, .nil => rfl
  | _, _, _, .cons _ q => congrArg (· + 1) q.len
theorem ER.puts : ∀ {is : List Nat} {vs : List V} {xs : List Vl} {F : List Addr} {r r' : Ev} {σ : L2.St} {G : Nat → List Addr}, ER K r σ G M H → HL K M H vs xs F → F.Nodup → (∀ b ∈ F, M b ∧ ∀ i, b ∉ G i) → putE is xs r = some r' →
    ∃ G', ER K r' (putS is vs σ) G' M H ∧ (∀ j b, b ∈ G' j → b ∈ G j ∨ b ∈ F) ∧ is.length = vs.length
  | [], _, _, _, r, r', σ, G, e, .nil, _, _, h => by
    simp only [putE] at h
    cases h
    exact ⟨G, e, fun _ _ h => .inl h, rfl⟩
  | [], _, _, _, r, r', σ, G, e, .cons _ _, _, _, h => by simp [putE] at h
  | i :: is, _, _, _, r, r', σ, G, e, .nil, _, _, h => by simp [putE] at h
  | i :: is, _, _, _, r, r', σ, G, e, .cons (F := F1) (F' := F2) rp q, nd, hot, h => by
    simp only [putE] at h
    split at h
    · rename_i hi
      obtain ⟨n1, n2, n3⟩ := List.nodup_append.mp nd
      have e1 := e.put rp n1 (fun b hb => hot b (List.mem_append_left _ hb)) (by rw [← e.len]; exact hi)
      obtain ⟨G', e2, g2, hl⟩ := ER.puts e1 q n2 (fun b hb => ⟨(hot b (List.mem_append_right _ hb)).1, fun j hj => by
        by_cases z : j = i
        · simp only [if_pos z] at hj; exact n3 b hj b hb rfl
        · simp only [if_neg z] at hj; exact (hot b (List.mem_append_right _ hb)).2 j hj⟩) h
      refine ⟨G', e2, fun j b hb => ?_, by simp [hl]⟩
      rcases g2 j b hb with z | z
      · by_cases y : j = i
        · simp only [if_pos y] at z; exact .inr (List.mem_append_left _ z)
        · simp only [if_neg y] at z; exact .inl z
      · exact .inr (List.mem_append_right _ z)
    · cases h
theorem putS_0 : ∀ {is : List Nat} {vs : List V} {σ : L2.St}, 0 ∉ is → (putS is vs σ)[0]? = σ[0]?
  | [], _, _, _ => rfl
  | i :: is, [], _, _ => rfl
  | i :: is, v :: vs, σ, h => by
    show (putS is vs (σ.set i (some v)))[0]? = _
    rw [putS_0 (fun z => h (List.mem_cons_of_mem _ z)), List.getElem?_set_ne (fun z => h (by rw [z]; exact List.mem_cons_self))]
/-- a, b = x, y -/
def sPar (is : List Nat) (fs : List (Ev → Ou Vl)) : Ev → So := fun r => match evH fs r with
  | .ok xs r1 => match putE is xs r1 with
    | some r2 => .nx r2
    | none => .no
  | .ex c fs r1 => .ex c fs r1
  | .no => .no
theorem par_go {is : List Nat} {fs : List (Ev → Ou Vl)} (hio : io = true → 0 ∉ is) (h : tIS K cl W io (sPar is fs) D σ H) : tOs K cl W (fs.map .e) σ H fun vs H1 => is.length = vs.length ∧ D.nx (putS is vs σ) H1 ∧ ∀ H2, (∀ b o, H1 b = some o → H2 b = some o) → D.nx (putS is vs σ) H2 := by
  obtain ⟨r, M, G, e, h⟩ := h
  refine tOs_hold fs e ?_
  simp only [sPar] at h
  cases ha : evH fs r with
  | no => rw [ha] at h; exact h
  | ex c fs r1 => rw [ha] at h; exact fun d H' M' G' p => h d σ H' M' G' ⟨p, fun _ => rfl⟩
  | ok xs r1 =>
    rw [ha] at h
    intro vs H1 M1 G1 F p
    simp only at h
    cases hp : putE is xs r1 with
    | none => rw [hp] at h; exact h.elim
    | some r2 =>
      rw [hp] at h
      obtain ⟨G2, e2, g2, hl⟩ := ER.puts p.er p.hl p.nd p.hot hp
      have v2 : Evo H M G H1 M1 G2 [] := ⟨p.ev.pres', p.ev.dom, p.ev.grow, p.ev.keep, fun j b hb => (g2 j b hb).elim (p.ev.env j b) (p.ev.res b), fun _ z => nomatch z⟩
      have pin : io = true → (putS is vs σ)[0]? = σ[0]? := fun z => putS_0 (hio z)
      refine ⟨hl, h _ H1 M1 G2 ⟨e2, v2, pin⟩, fun H2 g => ?_⟩
      obtain ⟨e3, v3⟩ := e2.grown g
      exact h _ H2 M1 G2 ⟨e3, v2.trans e.hot v3, pin⟩
def fin (io : Bool) (x : Vl) (r : Ev) : Fo := match io with
  | false => .rt x (.n, .c)
  | true => match r[0]? with
    | some (some z) => .rt x z
    | _ => .no
def finX (io : Bool) (c : Str) (fs : List (Str × Dt)) (r : Ev) : Fo := match io with
  | false => .ex c fs (.n, .c)
  | true => match r[0]? with
    | some (some z) => .ex c fs z
    | _ => .no
def mkFn (io : Bool) (n : Nat) (g : Ev → So) : Fn := fun xs => match g (xs.map some ++ List.replicate (n - xs.length) none) with
  | .rt x r => fin io x r
  | .nx r => fin io (.n, .c) r
  | .ex c fs r => finX io c fs r
  | _ => .no
theorem ER.pad {a : Ev} {b : L2.St} (e : ER K a b G M H) (n : Nat) : ER K (a ++ List.replicate n none) (b ++ List.replicate n none) G M H := by
  refine ⟨by simp [e.len], fun i x m h => ?_, fun i h => e.emp i fun x m q => h x m ?_, e.nd, e.dj, e.sub, e.hot, e.tab⟩
  · by_cases q : i < a.length
    · rw [List.getElem?_append_left q] at h
      obtain ⟨v, h1, h2⟩ := e.at_ i x m h
      exact ⟨v, by rw [List.getElem?_append_left (by rw [← e.len]; exact q)]; exact h1, h2⟩
    · rw [List.getElem?_append_right (by omega), List.getElem?_replicate] at h
      split at h <;> cases h
  · rw [List.getElem?_append_left (List.getElem?_eq_some_iff.mp q).1]; exact q
theorem ER.head {z : Vl} {v0 : V} (e : ER K r σ G M H) (h1 : r[0]? = some (some z)) (h2 : σ[0]? = some (some v0)) : ER K [some z] [some v0] (fun i => if i = 0 then G 0 else []) M H := by
  refine ⟨rfl, fun i x m h => ?_, fun i h => ?_, fun i => ?_, fun i j hne b hb => ?_, fun i b hb => ?_, e.hot, e.tab⟩
  · cases i with
    | zero =>
      simp at h
      subst h
      obtain ⟨v, h3, h4⟩ := e.at_ 0 x m h1
      rw [h2] at h3; cases h3
      exact ⟨v0, rfl, by simpa using h4⟩
    | succ i => simp at h
  · cases i with
    | zero => exact absurd rfl (h z.1 z.2)
    | succ i => simp
  · cases i with
    | zero => simpa using e.nd 0
    | succ i => simp
  · cases i with
    | zero => cases j with
      | zero => exact absurd rfl hne
      | succ j => simp
    | succ i => simp at hb
  · cases i with
    | zero => exact e.sub 0 b (by simpa using hb)
    | succ i => simp at hb
theorem ER.empt (e : ER K r σ G M H) : ER K [] [] (fun _ => []) M H := ⟨rfl, fun i x m h => by simp at h, fun _ _ => rfl, fun _ => List.nodup_nil, fun _ _ _ _ h => (nomatch h), fun _ _ h => (nomatch h), e.hot, e.tab⟩
theorem Evo.less {F : List Addr} {G2 : Nat → List Addr} (a : Evo H M G H' M' G' F) (h : ∀ i b, b ∈ G2 i → ∃ j, b ∈ G' j) : Evo H M G H' M' G2 F :=
  ⟨a.pres', a.dom, a.grow, a.keep, fun i b hb => let ⟨j, q⟩ := h i b hb; a.env j b q, a.res⟩
theorem out_px {vs : List V} {σ' : L2.St} {v : V} {x : Dt} {m : Md} {F : List Addr} {z : Vl} (hv : io = true → ∃ v0, σ'[0]? = some (some v0) ∧ ioS true vs = [some v0]) (hz : io = true → r'[0]? = some (some z)) (p : PX K r' σ' H M G v x m H' M' G' F) :
    ∃ G2, PX K (ioE io z) (ioS io vs) H M G v x m H' M' G2 F := by
  cases io with
  | false => exact ⟨_, p.er.empt, p.ev.less fun _ _ h => (nomatch h), p.rp, p.nd, fun b hb => ⟨(p.hot b hb).1, fun _ h => nomatch h⟩⟩
  | true =>
    obtain ⟨v0, h1, h2⟩ := hv rfl
    refine ⟨fun i => if i = 0 then G' 0 else [], ?_, p.ev.less fun i b hb => ⟨0, ?_⟩, p.rp, p.nd, fun b hb => ⟨(p.hot b hb).1, fun i hi => ?_⟩⟩
    · rw [h2]; exact p.er.head (hz rfl) h1
    · cases i with
      | zero => simpa using hb
      | succ i => simp at hb
    · cases i with
      | zero => exact (p.hot b hb).2 0 (by simpa using hi)
      | succ i => simp at hi
theorem out_xx {vs : List V} {σ' : L2.St} {fs : List (Str × Dt)} {d : Option Addr} {z : Vl} (hv : io = true → ∃ v0, σ'[0]? = some (some v0) ∧ ioS true vs = [some v0]) (hz : io = true → r'[0]? = some (some z)) (p : XX K r' σ' H M G fs d H' M' G') :
    ∃ G2, XX K (ioE io z) (ioS io vs) H M G fs d H' M' G2 := by
  cases io with
  | false => exact ⟨_, p.er.empt, p.ev.less fun _ _ h => (nomatch h), p.xd⟩
  | true =>
    obtain ⟨v0, h1, h2⟩ := hv rfl
    refine ⟨fun i => if i = 0 then G' 0 else [], ?_, p.ev.less fun i b hb => ⟨0, ?_⟩, p.xd⟩
    · rw [h2]; exact p.er.head (hz rfl) h1
    · cases i with
      | zero => simpa using hb
      | succ i => simp at hb
end
section
variable {P : Program} {w : World} {K : PySem.W.Frag} {mg : Str → Option Value} {base : Heap} {cl : Str → Addr} {io : Bool}
/-- THE RULE for a def -/
theorem fn_ok {x qual : Str} {st : Stmt} {f : Addr} {fd : FuncData} {N ps : List Str} {k n nn : Nat} {g : Ev → So} (F : Fun K x qual st f fd) (S : FnScope N ps (defScope st)) (hn : ps.length = n := by rfl) (hnn : N.length = nn := by rfl) (hio : io = true → 0 < n := by decide)
    (hb : ∀ (cdv : Value) (A : Around) (outer : List Env) (s : Shared) (H : Hp) (E : XK), Room k (A.deeper (envOfC qual (defScope st) s.heap.objs.size f cdv)) → JB (cxOf (L2.CX P w) P w K mg base N qual (defScope st) f cdv A outer s H E) cl (fun cls d _ H => E cls d H) io (defBody st) g) :
    FnOk P w K mg base (L2.CX P w) (k + 1) f fd ps (spY K cl io n (mkFn io nn g)) := by
  subst hn hnn
  refine fn_okX F S (fun vs H Q E h => h.1) fun cdv A outer s H vs Q E hr h => ⟨_, hb cdv A outer s H E hr (takes_of rfl rfl rfl rfl), ?_⟩
  obtain ⟨hlen, xs, M, G, e, gio, h⟩ := h
  have hxl : xs.length = vs.length := by simpa using e.len
  have e0 : ER K (xs.map some ++ List.replicate (N.length - xs.length) none) (start N vs) G M H := by
    have := e.pad (N.length - xs.length)
    rw [hxl] at this ⊢
    exact this
  refine ⟨_, M, G, e0, ?_⟩
  have first : io = true → ∃ v0, (start N vs)[0]? = some (some v0) ∧ ioS true vs = [some v0] := fun z => by
    have := hio z
    cases vs with
    | nil => simp at hlen; omega
    | cons v0 vs => exact ⟨v0, rfl, by simp [ioS]⟩
  simp only [mkFn] at h
  have done : ∀ (x : Dt) (m : Md) (r' : Ev), (match fin io (x, m) r' with
      | .rt (x, m) z => ∀ v H' M' G' F, PX K (ioE io z) (ioS io vs) H M G v x m H' M' G' F → Q v H'
      | .ex c fs z => ∀ d H' M' G', XX K (ioE io z) (ioS io vs) H M G fs d H' M' G' → E (.ref (cl c)) d H'
      | .no => False) → ∀ v σ' H' M' G' F, RX K io r' (start N vs) σ' H M G v x m H' M' G' F → Q v H' := fun x m r' h v σ' H' M' G' F p => by
    have hv : io = true → ∃ v0, σ'[0]? = some (some v0) ∧ ioS true vs = [some v0] := fun z => by
      obtain ⟨v0, h1, h2⟩ := first z
      exact ⟨v0, (p.pin z).trans h1, h2⟩
    cases io with
    | false =>
      simp only [fin] at h
      obtain ⟨G2, q⟩ := out_px (z := (.n, .c)) (vs := vs) hv (fun z => nomatch z) p.px
      exact h v H' M' G2 F q
    | true =>
      simp only [fin] at h
      cases hr : r'[0]? with
      | none => rw [hr] at h; exact h.elim
      | some o =>
        cases o with
        | none => rw [hr] at h; exact h.elim
        | some z =>
          rw [hr] at h
          obtain ⟨G2, q⟩ := out_px (z := z) (vs := vs) hv (fun _ => hr) p.px
          exact h v H' M' G2 F q
  cases hg : g (xs.map some ++ List.replicate (N.length - xs.length) none) with
  | no => rw [hg] at h; exact h
  | bk r' => rw [hg] at h; exact h.elim
  | ct r' => rw [hg] at h; exact h.elim
  | nx r' =>
    rw [hg] at h
    exact fun σ' H' M' G' p => done .n .c r' h .non σ' H' M' G' [] ⟨⟨p.er, p.ev, ⟨.n, rfl⟩, List.nodup_nil, fun _ z => (nomatch z)⟩, p.pin⟩
  | rt xm r' =>
    obtain ⟨x, m⟩ := xm
    rw [hg] at h
    exact fun v σ' H' M' G' F p => done x m r' h v σ' H' M' G' F p
  | ex c fs r' =>
    rw [hg] at h
    intro d σ' H' M' G' p
    have hv : io = true → ∃ v0, σ'[0]? = some (some v0) ∧ ioS true vs = [some v0] := fun z => by
      obtain ⟨v0, h1, h2⟩ := first z
      exact ⟨v0, (p.pin z).trans h1, h2⟩
    cases io with
    | false =>
      simp only [finX] at h
      obtain ⟨G2, q⟩ := out_xx (z := (.n, .c)) (vs := vs) hv (fun z => nomatch z) p.xx
      exact h d H' M' G2 q
    | true =>
      simp only [finX] at h
      cases hr : r'[0]? with
      | none => rw [hr] at h; exact h.elim
      | some o =>
        cases o with
        | none => rw [hr] at h; exact h.elim
        | some z =>
          rw [hr] at h
          obtain ⟨G2, q⟩ := out_xx (z := z) (vs := vs) hv (fun _ => hr) p.xx
          exact h d H' M' G2 q
end
end Y
namespace Y
open PySem L2 PyProof.Rows
section
variable {K : PySem.W.Frag} {M M' : Addr → Prop} {H H' : Hp}
theorem mk_c (ht : Hotty M H) {v : V} {x : Dt} (c : Co K M H v x) : Mk K H M v x .c H [] := ⟨fun _ _ h => h, fun _ z => (nomatch z), List.nodup_nil, c.less (fun b z => z.elim id fun z => (nomatch z)) ht, rfl⟩
theorem Pr.or {rr rr' : List V → Hp → VK → Prop} {f f' : List Dt → Option Vl} (h : Pr K rr f) (h' : Pr K rr' f') : Pr K (fun vs H Q => rr vs H Q ∨ rr' vs H Q) (fun xs => (f xs).or (f' xs)) := fun M H vs xs x m Q ht c hf k => by
  have hf : (f xs).or (f' xs) = some (x, m) := hf
  cases e : f xs with
  | some y => rw [e, Option.some_or] at hf; cases hf; exact .inl (h M H vs xs x m Q ht c e k)
  | none => rw [e, Option.none_or] at hf; exact .inr (h' M H vs xs x m Q ht c hf k)
theorem Pr.imp {rr rr' : List V → Hp → VK → Prop} {f : List Dt → Option Vl} (h : Pr K rr f) (i : ∀ vs H Q, rr vs H Q → rr' vs H Q) : Pr K rr' f := fun M H vs xs x m Q ht c hf k => i _ _ _ (h M H vs xs x m Q ht c hf k)
theorem Pr.or2 {r r' : R2} {f f' : List Dt → Option Vl} (h : Pr K (ap2 r) f) (h' : Pr K (ap2 r') f') : Pr K (ap2 fun x y H Q => r x y H Q ∨ r' x y H Q) (fun xs => (f xs).or (f' xs)) := (h.or h').imp fun vs H Q z => by
  match vs, z with
  | [x, y], z => exact z
  | [], .inl z => exact z
  | [], .inr z => exact z
  | [_], .inl z => exact z
  | [_], .inr z => exact z
  | _ :: _ :: _ :: _, .inl z => exact z
  | _ :: _ :: _ :: _, .inr z => exact z
theorem CoL.two {vs : List V} {x y : Dt} (c : CoL K M H vs [x, y]) : ∃ v w, vs = [v, w] ∧ Co K M H v x ∧ Co K M H w y := by
  cases c with
  | cons h q => cases q with
    | cons h2 q2 => cases q2; exact ⟨_, _, rfl, h, h2⟩
theorem CoL.one {vs : List V} {x : Dt} (c : CoL K M H vs [x]) : ∃ v, vs = [v] ∧ Co K M H v x := by
  cases c with
  | cons h q => cases q; exact ⟨_, rfl, h⟩
theorem Co.int {v : V} {a : Int} (c : Co K M H v (.i a)) : v = .int a := by cases c; rfl
theorem Co.bl {v : V} {a : Bool} (c : Co K M H v (.b a)) : v = .bl a := by cases c; rfl
theorem Co.str {v : V} {a : Str} (c : Co K M H v (.s a)) : v = .str a := by cases c; rfl
theorem Co.non {v : V} (c : Co K M H v .n) : v = .non := by cases c; rfl
theorem Co.lst {v : V} {xs : List Dt} (c : Co K M H v (.l xs)) : ∃ a vs, v = .ref a ∧ H a = some (.lst vs) ∧ CoL K M H vs xs := by cases c with | l h _ q => exact ⟨_, _, rfl, h, q⟩
theorem Co.tup {v : V} {xs : List Dt} (c : Co K M H v (.t xs)) : ∃ a vs, v = .ref a ∧ SqT K H a vs ∧ CoL K M H vs xs := by cases c with | t h q => exact ⟨_, _, rfl, h, q⟩
theorem Co.frz {v : V} {xs : List Dt} (c : Co K M H v (.z xs)) : ∃ a vs, v = .ref a ∧ SqF K H a vs ∧ CoL K M H vs xs := by cases c with | z h q => exact ⟨_, _, rfl, h, q⟩
def fII (g : Int → Int → Dt) : List Dt → Option Vl
  | [.i a, .i b] => some (g a b, .c)
  | _ => none
def fIC (C : Int → Int → Bool) (g : Int → Int → Dt) : List Dt → Option Vl
  | [.i a, .i b] => if C a b then some (g a b, .c) else none
  | _ => none
theorem pr_i0 {g : Int → Int → V} {g' : Int → Int → Dt} (hg : ∀ a b M H, Co K M H (g a b) (g' a b)) : Pr K (ap2 (rI0 g)) (fII g') := fun M H vs xs x m Q ht c hf k => by
  unfold fII at hf
  split at hf
  · cases hf
    obtain ⟨v, w, rfl, c1, c2⟩ := c.two
    exact ⟨_, _, c1.int, c2.int, k _ _ _ (mk_c ht (hg _ _ _ _))⟩
  · cases hf
theorem pr_iC {C : Int → Int → Prop} {C' : Int → Int → Bool} {g : Int → Int → V} {g' : Int → Int → Dt} (hC : ∀ a b, C' a b = true → C a b) (hg : ∀ a b M H, Co K M H (g a b) (g' a b)) : Pr K (ap2 (rI C g)) (fIC C' g') := fun M H vs xs x m Q ht c hf k => by
  unfold fIC at hf
  split at hf
  · split at hf
    · rename_i h
      cases hf
      obtain ⟨v, w, rfl, c1, c2⟩ := c.two
      exact ⟨_, _, c1.int, c2.int, hC _ _ h, k _ _ _ (mk_c ht (hg _ _ _ _))⟩
    · cases hf
  · cases hf
def fCatL : List Dt → Option Vl
  | [.l xs, .l ys] => if xs.length + ys.length ≤ LIM then some (.l (xs ++ ys), .t) else none
  | _ => none
theorem CoL.app : ∀ {vs us : List V} {xs ys : List Dt}, CoL K M H vs xs → CoL K M H us ys → CoL K M H (vs ++ us) (xs ++ ys)
  | _, _, _, _, .nil, q => q
  | _, _, _, _, .cons a b, q => .cons a (b.app q)
theorem pr_catL : Pr K (ap2 rCat) fCatL := fun M H vs xs x m Q ht c hf k => by
  unfold fCatL at hf
  split at hf
  · split at hf
    · rename_i h
      cases hf
      obtain ⟨v, w, rfl, c1, c2⟩ := c.two
      obtain ⟨a, us, rfl, h1, q1⟩ := c1.lst
      obtain ⟨b, ws, rfl, h2, q2⟩ := c2.lst
      exact ⟨a, b, us, ws, rfl, rfl, h1, h2, by rw [q1.len, q2.len]; exact lim_size h, fun p hp => k _ _ _ (mk_lst ht hp (q1.app q2))⟩
    · cases hf
  · cases hf
def fCatT : List Dt → Option Vl
  | [.t xs, .t ys] => if xs.length + ys.length ≤ LIM then some (.t (xs ++ ys), .c) else none
  | _ => none
theorem CoL.nilD {xs : List Dt} (c : CoL K M H [] xs) : xs = [] := by cases c; rfl
theorem pr_catT : Pr K (ap2 (rCatA K)) fCatT := fun M H vs xs x m Q ht c hf k => by
  unfold fCatT at hf
  split at hf
  · split at hf
    · rename_i h
      cases hf
      obtain ⟨v, w, rfl, c1, c2⟩ := c.two
      obtain ⟨a, us, rfl, h1, q1⟩ := c1.tup
      obtain ⟨b, ws, rfl, h2, q2⟩ := c2.tup
      refine ⟨a, b, us, ws, rfl, rfl, h1, h2, by rw [q1.len, q2.len]; exact lim_size h, fun e => ?_, fun _ e => ?_, fun _ _ p hp => k _ _ _ (mk_tup ht hp (q1.app q2))⟩
      · subst e
        have z := q1.nilD
        rw [z, List.nil_append] at k
        exact k _ _ _ (mk_c ht (.t h2 q2))
      · subst e
        have z := q2.nilD
        rw [z, List.append_nil] at k
        exact k _ _ _ (mk_c ht (.t h1 q1))
    · cases hf
  · cases hf
def fCatS : List Dt → Option Vl
  | [.s a, .s b] => if a.length + b.length ≤ LIM then some (.s (a ++ b), .c) else none
  | _ => none
theorem pr_catS : Pr K (ap2 fun x y H Q => ∃ i j, x = .str i ∧ y = .str j ∧ i.length + j.length ≤ sizeLine ∧ Q (.str (i ++ j)) H) fCatS := fun M H vs xs x m Q ht c hf k => by
  unfold fCatS at hf
  split at hf
  · split at hf
    · rename_i h
      cases hf
      obtain ⟨v, w, rfl, c1, c2⟩ := c.two
      exact ⟨_, _, c1.str, c2.str, lim_size h, k _ _ _ (mk_c ht (.s _))⟩
    · cases hf
  · cases hf
def fRepL : List Dt → Option Vl
  | [.l xs, .i n] => if n ≤ 1000000 ∧ -1000000 ≤ n ∧ xs.length * n.toNat ≤ LIM then some (.l (List.replicate n.toNat xs).flatten, .t) else none
  | _ => none
theorem CoL.rep {vs : List V} {xs : List Dt} (c : CoL K M H vs xs) : ∀ n : Nat, CoL K M H (List.replicate n vs).flatten (List.replicate n xs).flatten
  | 0 => .nil
  | n + 1 => by
    rw [List.replicate_succ, List.replicate_succ, List.flatten_cons, List.flatten_cons]
    exact c.app (CoL.rep c n)
theorem pr_repL : Pr K (ap2 rRep) fRepL := fun M H vs xs x m Q ht c hf k => by
  unfold fRepL at hf
  split at hf
  · split at hf
    · rename_i h
      cases hf
      obtain ⟨v, w, rfl, c1, c2⟩ := c.two
      obtain ⟨a, us, rfl, h1, q1⟩ := c1.lst
      exact ⟨a, _, us, rfl, c2.int, h1, by omega, by omega, by rw [q1.len]; exact lim_size h.2.2, fun p hp => k _ _ _ (mk_lst ht hp (q1.rep _))⟩
    · cases hf
  · cases hf
variable {X : Cx}
def fAdd : List Dt → Option Vl := fun xs => (fII (fun a b => .i (a + b)) xs).or ((fCatL xs).or ((fCatT xs).or (fCatS xs)))
def rAddA (K : PySem.W.Frag) : R2 := fun x y H Q => rI0 (fun i j => .int (i + j)) x y H Q ∨ (rCat x y H Q ∨ (rCatA K x y H Q ∨ (∃ i j, x = .str i ∧ y = .str j ∧ i.length + j.length ≤ sizeLine ∧ Q (.str (i ++ j)) H)))
theorem or_add : OpR X (binaryOp .Add) (rAddA X.K) := op_add.or (op_cat.or (op_catA.or op_add_str))
theorem pr_add : Pr K (ap2 (rAddA K)) fAdd := (pr_i0 fun a b M H => .i _).or2 (pr_catL.or2 (pr_catT.or2 pr_catS))
def fSub : List Dt → Option Vl := fII fun a b => .i (a - b)
theorem pr_sub : Pr K (ap2 (rI0 fun i j => .int (i - j))) fSub := pr_i0 fun a b M H => .i _
def cMul (i j : Int) : Bool := (decide (-(2 ^ 64) < i) && decide (i < 2 ^ 64)) || (decide (-(2 ^ 64) < j) && decide (j < 2 ^ 64))
theorem cMul_ok {i j : Int} (h : cMul i j = true) : CMul i j := by
  simp only [cMul, Bool.or_eq_true, Bool.and_eq_true, decide_eq_true_eq] at h
  exact h
def fMulI : List Dt → Option Vl := fIC cMul fun a b => .i (a * b)
def fDiv : List Dt → Option Vl := fIC (fun _ j => decide (0 < j) && decide (j.natAbs.log2 < 9000)) fun a b => .i (a / b)
theorem pr_div : Pr K (ap2 (rI CDivW fun i j => .int (i / j))) fDiv := pr_iC (fun a b h => by simpa [CDivW] using h) fun a b M H => .i _
def fMod : List Dt → Option Vl := fIC (fun _ j => decide (0 < j)) fun a b => .i (a % b)
theorem pr_mod : Pr K (ap2 (rI (fun _ j => 0 < j) fun i j => .int (i % j))) fMod := pr_iC (fun a b h => by simpa using h) fun a b M H => .i _
def fPow : List Dt → Option Vl := fIC (fun i j => decide (0 ≤ j) && decide (j ≤ 1000000) && decide (i.natAbs < 2 ^ 64)) fun a b => .i (a ^ b.toNat)
theorem pr_pow : Pr K (ap2 (rI CPow fun i j => .int (i ^ j.toNat))) fPow := pr_iC (fun a b h => by
  simp only [Bool.and_eq_true, decide_eq_true_eq] at h
  exact ⟨h.1.1, h.1.2, h.2⟩) fun a b M H => .i _
def fNeg : List Dt → Option Vl
  | [.i a] => some (.i (-a), .c)
  | _ => none
theorem pr_neg : Pr K (ap1 (rU fun i => .int (-i))) fNeg := fun M H vs xs x m Q ht c hf k => by
  unfold fNeg at hf
  split at hf
  · cases hf
    obtain ⟨v, rfl, c1⟩ := c.one
    exact ⟨_, c1.int, k _ _ _ (mk_c ht (.i _))⟩
  · cases hf
def fLt : List Dt → Option Vl := fII fun a b => .b (decide (a < b))
def fLe : List Dt → Option Vl := fII fun a b => .b (decide (a ≤ b))
def fGt : List Dt → Option Vl := fII fun a b => .b (decide (b < a))
def fGe : List Dt → Option Vl := fII fun a b => .b (decide (b ≤ a))
theorem pr_lt : Pr K (ap2 (rI0 fun i j => .bl (decide (i < j)))) fLt := pr_i0 fun a b M H => .b _
theorem pr_le : Pr K (ap2 (rI0 fun i j => .bl (decide (i ≤ j)))) fLe := pr_i0 fun a b M H => .b _
theorem pr_gt : Pr K (ap2 (rI0 fun i j => .bl (decide (j < i)))) fGt := pr_i0 fun a b M H => .b _
theorem pr_ge : Pr K (ap2 (rI0 fun i j => .bl (decide (j ≤ i)))) fGe := pr_i0 fun a b M H => .b _
/-- what is no plain data: deep, a dict within -/
def badP : Nat → PyData
  | 0 => .dict []
  | n + 1 => .list [badP n]
theorem badP_can : ∀ n, (badP n).canLay0 = false
  | 0 => by simp [badP, PyData.canLay0]
  | n + 1 => by simp [badP, PyData.canLay0, PyData.canLayAll0, badP_can n]
theorem badP_dep : ∀ n, n ≤ (badP n).depth
  | 0 => Nat.zero_le _
  | n + 1 => by
    have := badP_dep n
    simp only [badP, PyData.depth, PyData.depthAll]
    omega
mutual
def toP : Dt → PyData
  | .n => .none
  | .b x => .bool x
  | .i x => .int x
  | .s x => .str x
  | .t xs => .tuple (toPL xs)
  | .l xs => .list (toPL xs)
  | .z xs => .list (toPL xs)
  | .m _ _ => badP 60
  | .o _ _ _ => badP 60
  | .x _ _ _ => badP 60
  | .f _ => badP 60
  | .k _ _ => badP 60
def toPL : List Dt → List PyData
  | [] => []
  | x :: xs => toP x :: toPL xs
end
mutual
/-- no dict, no object within -/
def nob : Dt → Bool
  | .t xs => nobL xs
  | .l xs => nobL xs
  | .z xs => nobL xs
  | .m _ _ => false
  | .o _ _ _ => false
  | .x _ _ _ => false
  | .f _ => false
  | .k _ _ => false
  | _ => true
def nobL : List Dt → Bool
  | [] => true
  | x :: xs => nob x && nobL xs
end
mutual
theorem nob_can : ∀ x : Dt, (toP x).canLay0 = true → nob x = true
  | .n, _ => rfl
  | .b _, _ => rfl
  | .i _, _ => rfl
  | .s _, _ => rfl
  | .t xs, h => nobL_can xs h
  | .l xs, h => nobL_can xs h
  | .z xs, h => nobL_can xs h
  | .m _ _, h => by simp only [toP, badP_can] at h; cases h
  | .o _ _ _, h => by simp only [toP, badP_can] at h; cases h
  | .x _ _ _, h => by simp only [toP, badP_can] at h; cases h
  | .f _, h => by simp only [toP, badP_can] at h; cases h
  | .k _ _, h => by simp only [toP, badP_can] at h; cases h
theorem nobL_can : ∀ xs : List Dt, PyData.canLayAll0 (toPL xs) = true → nobL xs = true
  | [], _ => rfl
  | x :: xs, h => by
    simp only [toPL, PyData.canLayAll0, Bool.and_eq_true] at h
    simp only [nobL, nob_can x h.1, nobL_can xs h.2, Bool.and_self]
end
mutual
theorem nob_dep : ∀ x : Dt, (toP x).depth ≤ 59 → nob x = true
  | .n, _ => rfl
  | .b _, _ => rfl
  | .i _, _ => rfl
  | .s _, _ => rfl
  | .t xs, h => nobL_dep xs (by simp only [toP, PyData.depth] at h; omega)
  | .l xs, h => nobL_dep xs (by simp only [toP, PyData.depth] at h; omega)
  | .z xs, h => nobL_dep xs (by simp only [toP, PyData.depth] at h; omega)
  | .m _ _, h => by have := badP_dep 60; simp only [toP] at h; omega
  | .o _ _ _, h => by have := badP_dep 60; simp only [toP] at h; omega
  | .x _ _ _, h => by have := badP_dep 60; simp only [toP] at h; omega
  | .f _, h => by have := badP_dep 60; simp only [toP] at h; omega
  | .k _ _, h => by have := badP_dep 60; simp only [toP] at h; omega
theorem nobL_dep : ∀ xs : List Dt, PyData.depthAll (toPL xs) ≤ 59 → nobL xs = true
  | [], _ => rfl
  | x :: xs, h => by
    simp only [toPL, PyData.depthAll] at h
    simp only [nobL, nob_dep x (by omega), nobL_dep xs (by omega), Bool.and_self]
end
theorem toPL_map : ∀ xs : List Dt, toPL xs = xs.map toP
  | [] => rfl
  | x :: xs => by simp [toPL, toPL_map xs]
mutual
theorem Co.dp : ∀ {v : V} {x : Dt}, Co K M H v x → nob x = true → Dp K H v (toP x)
  | _, _, .n, _ => .non
  | _, _, .b x, _ => .bl x
  | _, _, .i x, _ => .int x
  | _, _, .s x, _ => .str x
  | _, _, .t h q, n => .tup h (CoL.dp q n)
  | _, _, .l h hn q, n => .lst (.inl (.inl h)) (CoL.dp q n)
  | _, _, .z h q, n => .lst h.sq (CoL.dp q n)
  | _, _, .m h _ q, n => by simp [nob] at n
  | _, _, .o h _ c q, n => by simp [nob] at n
  | _, _, .x0 h c, n => by simp [nob] at n
  | _, _, .f h, n => by simp [nob] at n
  | _, _, .k _ _ _ _ _ _, n => by simp [nob] at n
  | _, _, .x1 h c d q, n => by simp [nob] at n
theorem CoL.dp : ∀ {vs : List V} {xs : List Dt}, CoL K M H vs xs → nobL xs = true → DpAll K H vs (toPL xs)
  | _, _, .nil, _ => .nil
  | _, _, .cons h q, n => by
    simp only [nobL, Bool.and_eq_true] at n
    exact .cons (Co.dp h n.1) (CoL.dp q n.2)
end
def shp (x : Dt) : Bool := SeqAt.shaped (toP x)
theorem nob_shp {x : Dt} (h : shp x = true) : nob x = true := nob_can x (SeqAt.canLay_of_shaped h)
def eqD (x y : Dt) : Bool := PyData.eqv (toP x) (toP y)
def fEq : List Dt → Option Vl
  | [.s a, .s b] => some (.b (decide (a = b)), .c)
  | [x, y] => if shp x && shp y then some (.b (eqD x y), .c) else none
  | _ => none
def fNe : List Dt → Option Vl
  | [.s a, .s b] => some (.b (!decide (a = b)), .c)
  | [x, y] => if shp x && shp y then some (.b (!eqD x y), .c) else none
  | _ => none
def rEqA (K : PySem.W.Frag) : R2 := fun x y H Q => rEq x y H Q ∨ rEqD K x y H Q
def rNeA (K : PySem.W.Frag) : R2 := fun x y H Q => rNe x y H Q ∨ rNeD K x y H Q
theorem or_eq (hu : X.A.units + 64 < cLine) : OpR X (compareOp .Eq) (rEqA X.K) := op_eq.or (op_eqD hu)
theorem or_ne (hu : X.A.units + 64 < cLine) : OpR X (compareOp .NotEq) (rNeA X.K) := op_ne.or (op_neD hu)
theorem pr_eq : Pr K (ap2 (rEqA K)) fEq := fun M H vs xs x m Q ht c hf k => by
  unfold fEq at hf
  split at hf
  · cases hf
    obtain ⟨v, w, rfl, c1, c2⟩ := c.two
    cases c1
    cases c2
    refine .inl ⟨rfl, ?_⟩
    simp only [V.str.injEq]
    exact k _ _ _ (mk_c ht (.b _))
  · split at hf
    · rename_i h
      cases hf
      rw [Bool.and_eq_true] at h
      obtain ⟨v, w, rfl, c1, c2⟩ := c.two
      exact .inr ⟨_, _, c1.dp (nob_shp h.1), c2.dp (nob_shp h.2), h.1, h.2, k _ _ _ (mk_c ht (.b _))⟩
    · cases hf
  · cases hf
theorem pr_ne : Pr K (ap2 (rNeA K)) fNe := fun M H vs xs x m Q ht c hf k => by
  unfold fNe at hf
  split at hf
  · cases hf
    obtain ⟨v, w, rfl, c1, c2⟩ := c.two
    cases c1
    cases c2
    refine .inl ⟨rfl, ?_⟩
    simp only [V.str.injEq]
    exact k _ _ _ (mk_c ht (.b _))
  · split at hf
    · rename_i h
      cases hf
      rw [Bool.and_eq_true] at h
      obtain ⟨v, w, rfl, c1, c2⟩ := c.two
      exact .inr ⟨_, _, c1.dp (nob_shp h.1), c2.dp (nob_shp h.2), h.1, h.2, k _ _ _ (mk_c ht (.b _))⟩
    · cases hf
  · cases hf
def isn : Dt → Bool
  | .n => true
  | _ => false
def fIsN : List Dt → Option Vl
  | [x, .n] => some (.b (isn x), .c)
  | _ => none
def fNotN : List Dt → Option Vl
  | [x, .n] => some (.b (!isn x), .c)
  | _ => none
theorem Co.isn {v : V} {x : Dt} (c : Co K M H v x) : decide (v = .non) = Y.isn x := by cases c <;> simp [Y.isn]
theorem pr_isN : Pr K (ap2 fun x y H Q => y = .non ∧ Q (.bl (decide (x = .non))) H) fIsN := fun M H vs xs x m Q ht c hf k => by
  unfold fIsN at hf
  split at hf
  · cases hf
    obtain ⟨v, w, rfl, c1, c2⟩ := c.two
    exact ⟨c2.non, by rw [c1.isn]; exact k _ _ _ (mk_c ht (.b _))⟩
  · cases hf
theorem pr_notN : Pr K (ap2 fun x y H Q => y = .non ∧ Q (.bl (!decide (x = .non))) H) fNotN := fun M H vs xs x m Q ht c hf k => by
  unfold fNotN at hf
  split at hf
  · cases hf
    obtain ⟨v, w, rfl, c1, c2⟩ := c.two
    exact ⟨c2.non, by rw [c1.isn]; exact k _ _ _ (mk_c ht (.b _))⟩
  · cases hf
def fIsB : List Dt → Option Vl
  | [.b a, .b c] => some (.b (decide (a = c)), .c)
  | _ => none
def fNotB : List Dt → Option Vl
  | [.b a, .b c] => some (.b (!decide (a = c)), .c)
  | _ => none
theorem pr_isB : Pr K (ap2 rIsB) fIsB := fun M H vs xs x m Q ht c hf k => by
  unfold fIsB at hf
  split at hf
  · cases hf
    obtain ⟨v, w, rfl, c1, c2⟩ := c.two
    exact ⟨_, _, c1.bl, c2.bl, k _ _ _ (mk_c ht (.b _))⟩
  · cases hf
theorem pr_notB : Pr K (ap2 rNotB) fNotB := fun M H vs xs x m Q ht c hf k => by
  unfold fNotB at hf
  split at hf
  · cases hf
    obtain ⟨v, w, rfl, c1, c2⟩ := c.two
    exact ⟨_, _, c1.bl, c2.bl, k _ _ _ (mk_c ht (.b _))⟩
  · cases hf
def fIs : List Dt → Option Vl := fun xs => (fIsN xs).or (fIsB xs)
def fNot : List Dt → Option Vl := fun xs => (fNotN xs).or (fNotB xs)
theorem or_is : OpR X (compareOp .Is) (fun x y H Q => (y = .non ∧ Q (.bl (decide (x = .non))) H) ∨ rIsB x y H Q) := op_isN.or op_isBl
theorem or_not : OpR X (compareOp .IsNot) (fun x y H Q => (y = .non ∧ Q (.bl (!decide (x = .non))) H) ∨ rNotB x y H Q) := op_notN.or op_notBl
theorem pr_is : Pr K (ap2 fun x y H Q => (y = .non ∧ Q (.bl (decide (x = .non))) H) ∨ rIsB x y H Q) fIs := pr_isN.or2 pr_isB
theorem pr_not : Pr K (ap2 fun x y H Q => (y = .non ∧ Q (.bl (!decide (x = .non))) H) ∨ rNotB x y H Q) fNot := pr_notN.or2 pr_notB
def fIx : List Dt → Option Vl
  | [.l xs, .i n] => (atI xs n).map (·, .c)
  | [.t xs, .i n] => (atI xs n).map (·, .c)
  | [.z xs, .i n] => (atI xs n).map (·, .c)
  | [.s z, .i n] => if z.length ≤ LIM then (atI z.cps.toList n).map (fun c => (.s ⟨#[c]⟩, .c)) else none
  | _ => none
theorem CoL.at {vs : List V} {xs : List Dt} {n : Int} {x : Dt} (c : CoL K M H vs xs) (h : atI xs n = some x) : ∃ v, atI vs n = some v ∧ Co K M H v x := by
  unfold atI at h ⊢
  rw [c.len]
  cases e : ixN xs.length n with
  | none => rw [e] at h; cases h
  | some j =>
    rw [e] at h
    obtain ⟨v, h1, h2⟩ := c.get (by simpa using h)
    exact ⟨v, by simpa using h1, h2⟩
theorem pr_ix : Pr K (ap2 (rIx K)) fIx := fun M H vs xs x m Q ht c hf k => by
  unfold fIx at hf
  split at hf
  · simp only [Option.map_eq_some_iff, Prod.mk.injEq] at hf
    obtain ⟨y, hy, rfl, rfl⟩ := hf
    obtain ⟨v, w, rfl, c1, c2⟩ := c.two
    obtain ⟨a, us, rfl, h1, q1⟩ := c1.lst
    obtain ⟨u, hu, cu⟩ := q1.at hy
    exact .inl ⟨a, us, _, u, rfl, c2.int, .inl (.inl h1), hu, k _ _ _ (mk_c ht cu)⟩
  · simp only [Option.map_eq_some_iff, Prod.mk.injEq] at hf
    obtain ⟨y, hy, rfl, rfl⟩ := hf
    obtain ⟨v, w, rfl, c1, c2⟩ := c.two
    obtain ⟨a, us, rfl, h1, q1⟩ := c1.tup
    obtain ⟨u, hu, cu⟩ := q1.at hy
    exact .inr (.inl ⟨a, us, _, u, rfl, c2.int, h1, hu, k _ _ _ (mk_c ht cu)⟩)
  · simp only [Option.map_eq_some_iff, Prod.mk.injEq] at hf
    obtain ⟨y, hy, rfl, rfl⟩ := hf
    obtain ⟨v, w, rfl, c1, c2⟩ := c.two
    obtain ⟨a, us, rfl, h1, q1⟩ := c1.frz
    obtain ⟨u, hu, cu⟩ := q1.at hy
    exact .inl ⟨a, us, _, u, rfl, c2.int, h1.sq, hu, k _ _ _ (mk_c ht cu)⟩
  · split at hf
    · rename_i hz
      simp only [Option.map_eq_some_iff, Prod.mk.injEq] at hf
      obtain ⟨y, hy, rfl, rfl⟩ := hf
      obtain ⟨v, w, rfl, c1, c2⟩ := c.two
      exact .inr (.inr ⟨_, _, _, c1.str, c2.int, lim_size hz, hy, k _ _ _ (mk_c ht (.s _))⟩)
    · cases hf
  · cases hf
end
end Y
namespace Y
open PySem L2 PyProof.Rows
section
variable {X : Cx} {K : PySem.W.Frag} {M M' : Addr → Prop} {H H' : Hp}
theorem CallR.any {f : Value} {r r' : List V → Hp → VK → Prop} (h : CallR X f r) (i : ∀ vs H Q, r' vs H Q → r vs H Q) : CallR X f r' := fun pins s σ H xs us Q I rv q => h pins s σ H xs us Q I rv (i _ _ _ q)
def fLen : List Dt → Option Vl
  | [.l xs] => some (.i xs.length, .c)
  | [.t xs] => some (.i xs.length, .c)
  | [.z xs] => some (.i xs.length, .c)
  | [.s x] => if x.length ≤ LIM then some (.i x.length, .c) else none
  | _ => none
def rLen (K : PySem.W.Frag) : List V → Hp → VK → Prop := fun xs H Q => (∃ p ys, xs = [.ref p] ∧ (SqL K H p ys ∨ SqT K H p ys) ∧ Q (.int ys.length) H) ∨ (∃ z, xs = [.str z] ∧ z.length ≤ sizeLine ∧ Q (.int z.length) H)
theorem cr_len : CallR X (.builtin "len") (rLen X.K) := call_len_seq.or call_len_str
theorem pr_len : Pr K (rLen K) fLen := fun M H vs xs x m Q ht c hf k => by
  unfold fLen at hf
  split at hf
  · cases hf
    obtain ⟨v, rfl, c1⟩ := c.one
    obtain ⟨a, us, rfl, h1, q1⟩ := c1.lst
    exact .inl ⟨a, us, rfl, .inl (.inl (.inl h1)), by rw [q1.len]; exact k _ _ _ (mk_c ht (.i _))⟩
  · cases hf
    obtain ⟨v, rfl, c1⟩ := c.one
    obtain ⟨a, us, rfl, h1, q1⟩ := c1.tup
    exact .inl ⟨a, us, rfl, .inr h1, by rw [q1.len]; exact k _ _ _ (mk_c ht (.i _))⟩
  · cases hf
    obtain ⟨v, rfl, c1⟩ := c.one
    obtain ⟨a, us, rfl, h1, q1⟩ := c1.frz
    exact .inl ⟨a, us, rfl, .inl (h1.sq), by rw [q1.len]; exact k _ _ _ (mk_c ht (.i _))⟩
  · split at hf
    · rename_i hz
      cases hf
      obtain ⟨v, rfl, c1⟩ := c.one
      exact .inr ⟨_, by rw [c1.str], lim_size hz, k _ _ _ (mk_c ht (.i _))⟩
    · cases hf
  · cases hf
def fList : List Dt → Option Vl
  | [.l xs] => some (.l xs, .t)
  | [.t xs] => some (.l xs, .t)
  | [.z xs] => some (.l xs, .t)
  | _ => none
theorem pr_list : Pr K (fun xs H Q => ∃ p ys, xs = [.ref p] ∧ (SqL K H p ys ∨ SqT K H p ys) ∧ ∀ l, H l = none → Q (.ref l) (upd H l (.lst ys))) fList := fun M H vs xs x m Q ht c hf k => by
  unfold fList at hf
  split at hf
  · cases hf
    obtain ⟨v, rfl, c1⟩ := c.one
    obtain ⟨a, us, rfl, h1, q1⟩ := c1.lst
    exact ⟨a, us, rfl, .inl (.inl (.inl h1)), fun l hl => k _ _ _ (mk_lst ht hl q1)⟩
  · cases hf
    obtain ⟨v, rfl, c1⟩ := c.one
    obtain ⟨a, us, rfl, h1, q1⟩ := c1.tup
    exact ⟨a, us, rfl, .inr h1, fun l hl => k _ _ _ (mk_lst ht hl q1)⟩
  · cases hf
    obtain ⟨v, rfl, c1⟩ := c.one
    obtain ⟨a, us, rfl, h1, q1⟩ := c1.frz
    exact ⟨a, us, rfl, .inl (h1.sq), fun l hl => k _ _ _ (mk_lst ht hl q1)⟩
  · cases hf
def fTuple : List Dt → Option Vl
  | [.l xs] => some (.t xs, .c)
  | [.t xs] => some (.t xs, .c)
  | [.z xs] => some (.t xs, .c)
  | _ => none
theorem pr_tuple : Pr K (fun xs H Q => ∃ p ys, xs = [.ref p] ∧ ((SqL K H p ys ∧ ∀ l, H l = none → Q (.ref l) (upd H l (.tup ys))) ∨ (SqT K H p ys ∧ Q (.ref p) H))) fTuple := fun M H vs xs x m Q ht c hf k => by
  unfold fTuple at hf
  split at hf
  · cases hf
    obtain ⟨v, rfl, c1⟩ := c.one
    obtain ⟨a, us, rfl, h1, q1⟩ := c1.lst
    exact ⟨a, us, rfl, .inl ⟨.inl (.inl h1), fun l hl => k _ _ _ (mk_tup ht hl q1)⟩⟩
  · cases hf
    obtain ⟨v, rfl, c1⟩ := c.one
    obtain ⟨a, us, rfl, h1, q1⟩ := c1.tup
    exact ⟨a, us, rfl, .inr ⟨h1, k _ _ _ (mk_c ht c1)⟩⟩
  · cases hf
    obtain ⟨v, rfl, c1⟩ := c.one
    obtain ⟨a, us, rfl, h1, q1⟩ := c1.frz
    exact ⟨a, us, rfl, .inl ⟨h1.sq, fun l hl => k _ _ _ (mk_tup ht hl q1)⟩⟩
  · cases hf
def fAbs : List Dt → Option Vl
  | [.i a] => some (.i (if a < 0 then -a else a), .c)
  | _ => none
theorem pr_abs : Pr K (fun xs H Q => ∃ i, xs = [.int i] ∧ Q (.int (if i < 0 then -i else i)) H) fAbs := fun M H vs xs x m Q ht c hf k => by
  unfold fAbs at hf
  split at hf
  · cases hf
    obtain ⟨v, rfl, c1⟩ := c.one
    exact ⟨_, by rw [c1.int], k _ _ _ (mk_c ht (.i _))⟩
  · cases hf
def fMax2 : List Dt → Option Vl
  | [.i a, .i b] => some (.i (if b > a then b else a), .c)
  | _ => none
def fMin2 : List Dt → Option Vl
  | [.i a, .i b] => some (.i (if b < a then b else a), .c)
  | _ => none
theorem pr_max2 : Pr K (fun xs H Q => ∃ i j, xs = [.int i, .int j] ∧ Q (.int (if j > i then j else i)) H) fMax2 := fun M H vs xs x m Q ht c hf k => by
  unfold fMax2 at hf
  split at hf
  · cases hf
    obtain ⟨v, w, rfl, c1, c2⟩ := c.two
    exact ⟨_, _, by rw [c1.int, c2.int], k _ _ _ (mk_c ht (.i _))⟩
  · cases hf
theorem pr_min2 : Pr K (fun xs H Q => ∃ i j, xs = [.int i, .int j] ∧ Q (.int (if j < i then j else i)) H) fMin2 := fun M H vs xs x m Q ht c hf k => by
  unfold fMin2 at hf
  split at hf
  · cases hf
    obtain ⟨v, w, rfl, c1, c2⟩ := c.two
    exact ⟨_, _, by rw [c1.int, c2.int], k _ _ _ (mk_c ht (.i _))⟩
  · cases hf
def fInt : List Dt → Option Vl
  | [.i a] => some (.i a, .c)
  | [.b a] => some (.i (if a then 1 else 0), .c)
  | _ => none
theorem pr_int : Pr K (fun xs H Q => (∃ i, xs = [.int i] ∧ Q (.int i) H) ∨ ∃ k, xs = [.bl k] ∧ Q (.int (if k then 1 else 0)) H) fInt := fun M H vs xs x m Q ht c hf k => by
  unfold fInt at hf
  split at hf
  · cases hf
    obtain ⟨v, rfl, c1⟩ := c.one
    exact .inl ⟨_, by rw [c1.int], k _ _ _ (mk_c ht (.i _))⟩
  · cases hf
    obtain ⟨v, rfl, c1⟩ := c.one
    exact .inr ⟨_, by rw [c1.bl], k _ _ _ (mk_c ht (.i _))⟩
  · cases hf
def intsL : List Dt → Option (List Int)
  | [] => some []
  | .i a :: xs => (intsL xs).map (a :: ·)
  | _ => none
def blsL : List Dt → Option (List Bool)
  | [] => some []
  | .b a :: xs => (blsL xs).map (a :: ·)
  | _ => none
theorem CoL.intsL : ∀ {vs : List V} {xs : List Dt} {ns : List Int}, CoL K M H vs xs → intsL xs = some ns → vs = ns.map V.int
  | _, _, _, .nil, h => by simp [Y.intsL] at h; subst h; rfl
  | _, x :: xs, _, .cons h q, e => by
    cases x with
    | i a =>
      simp only [Y.intsL, Option.map_eq_some_iff] at e
      obtain ⟨ns, e, rfl⟩ := e
      rw [h.int, CoL.intsL q e]; rfl
    | _ => simp [Y.intsL] at e
theorem CoL.blsL : ∀ {vs : List V} {xs : List Dt} {ns : List Bool}, CoL K M H vs xs → blsL xs = some ns → vs = ns.map V.bl
  | _, _, _, .nil, h => by simp [Y.blsL] at h; subst h; rfl
  | _, x :: xs, _, .cons h q, e => by
    cases x with
    | b a =>
      simp only [Y.blsL, Option.map_eq_some_iff] at e
      obtain ⟨ns, e, rfl⟩ := e
      rw [h.bl, CoL.blsL q e]; rfl
    | _ => simp [Y.blsL] at e
theorem ints_map (ns : List Int) : intsL (ns.map .i) = some ns := by
  induction ns with
  | nil => rfl
  | cons a ns ih => simp [intsL, ih]
theorem bls_map (ns : List Bool) : blsL (ns.map .b) = some ns := by
  induction ns with
  | nil => rfl
  | cons a ns ih => simp [blsL, ih]
def fSum : List Dt → Option Vl
  | [.l xs] => (intsL xs).map fun ns => (.i ns.sum, .c)
  | _ => none
theorem pr_sum : Pr K (rSum K) fSum := fun M H vs xs x m Q ht c hf k => by
  unfold fSum at hf
  split at hf
  · simp only [Option.map_eq_some_iff, Prod.mk.injEq] at hf
    obtain ⟨ns, hn, rfl, rfl⟩ := hf
    obtain ⟨v, rfl, c1⟩ := c.one
    obtain ⟨a, us, rfl, h1, q1⟩ := c1.lst
    have e := q1.intsL hn
    subst e
    exact ⟨a, ns, rfl, .inl (.inl h1), k _ _ _ (mk_c ht (.i _))⟩
  · cases hf
def lmax : Int → List Int → Int
  | a, [] => a
  | a, b :: xs => lmax (if b > a then b else a) xs
def lmin : Int → List Int → Int
  | a, [] => a
  | a, b :: xs => lmin (if b < a then b else a) xs
theorem lmax_spec : ∀ (xs : List Int) (a : Int), (lmax a xs = a ∨ lmax a xs ∈ xs) ∧ a ≤ lmax a xs ∧ ∀ y ∈ xs, y ≤ lmax a xs
  | [], a => ⟨.inl rfl, Int.le_refl _, fun _ h => nomatch h⟩
  | b :: xs, a => by
    obtain ⟨h1, h2, h3⟩ := lmax_spec xs (if b > a then b else a)
    simp only [lmax]
    by_cases q : b > a
    · simp only [if_pos q] at h1 h2 h3 ⊢
      refine ⟨?_, by omega, fun y hy => ?_⟩
      · rcases h1 with h1 | h1
        · exact .inr (by rw [h1]; exact List.mem_cons_self)
        · exact .inr (List.mem_cons_of_mem _ h1)
      · rcases List.mem_cons.mp hy with e | hy
        · rw [e]; exact h2
        · exact h3 y hy
    · simp only [if_neg q] at h1 h2 h3 ⊢
      refine ⟨?_, h2, fun y hy => ?_⟩
      · rcases h1 with h1 | h1
        · exact .inl h1
        · exact .inr (List.mem_cons_of_mem _ h1)
      · rcases List.mem_cons.mp hy with e | hy
        · rw [e]; omega
        · exact h3 y hy
def fMax1 : List Dt → Option Vl
  | [.l xs] => match intsL xs with
    | some (a :: ns) => some (.i (lmax a ns), .c)
    | _ => none
  | [.t xs] => match intsL xs with
    | some (a :: ns) => some (.i (lmax a ns), .c)
    | _ => none
  | _ => none
def fMin1 : List Dt → Option Vl
  | [.l xs] => match intsL xs with
    | some (a :: ns) => some (.i (lmin a ns), .c)
    | _ => none
  | [.t xs] => match intsL xs with
    | some (a :: ns) => some (.i (lmin a ns), .c)
    | _ => none
  | _ => none
theorem dp_ints {H : Hp} : ∀ ns : List Int, DpAll K H (ns.map V.int) (ns.map PyData.int)
  | [] => .nil
  | n :: ns => .cons (.int n) (dp_ints ns)
theorem depth_ints : ∀ ns : List Int, PyData.depthAll (ns.map PyData.int) = 0
  | [] => rfl
  | n :: ns => by simp [PyData.depthAll, PyData.depth, depth_ints ns]
theorem alike_ints (ns : List Int) : PySem.W.AlikeAll (ns.map PyData.int) := by
  refine ⟨fun x hx y hy => ?_, fun x hx => ?_⟩
  · obtain ⟨a, _, rfl⟩ := List.mem_map.mp hx
    obtain ⟨b, _, rfl⟩ := List.mem_map.mp hy
    rfl
  · obtain ⟨a, _, rfl⟩ := List.mem_map.mp hx
    exact fun h => nomatch h
theorem lmax_fold : ∀ (ns : List Int) (b : Int), lmax b ns = ns.foldl max b
  | [], b => rfl
  | n :: ns, b => by
    show lmax _ ns = _
    rw [lmax_fold ns, List.foldl_cons]
    congr 1
    by_cases h : n > b
    · rw [if_pos h]; omega
    · rw [if_neg h]; omega
def rMaxT (K : PySem.W.Frag) : List V → Hp → VK → Prop := fun vs H Q => ∃ (a : Addr) (b : Int) (ns : List Int), vs = [.ref a] ∧ SqT K H a ((b :: ns).map V.int) ∧ Q (.int (lmax b ns)) H
def rMaxA (K : PySem.W.Frag) : List V → Hp → VK → Prop := fun vs H Q => rMax K vs H Q ∨ rMaxT K vs H Q
theorem cr_maxT {X : Cx} (hc : X.calm = true) (hu : X.A.units + 64 < cLine) : CallR X (.builtin "max") (rMaxT X.K) := by
  intro pins s σ H xs us Q I r h
  obtain ⟨a, b, ns, rfl, hs, q⟩ := h
  obtain ⟨its, rv, hl, _⟩ := I.tuple hs
  rw [Vals.ref1 r]
  obtain ⟨as, rd⟩ := Dp.readsAll I _ _ _ (dp_ints (b :: ns)) rv
  refine PySem.W.max_tuple_data (I.ok.hd hc) hl (x := .int b) (xs := ns.map .int) (by simpa using rd) (alike_ints (b :: ns)) (by have := depth_ints (b :: ns); simp only [List.map_cons] at this; rw [this]; omega) fun i v h' tk bs _ hr hk => ?_
  rw [PySem.W.maxD_ints, ← lmax_fold] at hr
  cases hr with
  | int t => exact ⟨.int _, H, I.kept hk, ⟨_, rfl⟩, q⟩
theorem or_max {X : Cx} (hc : X.calm = true) (hu : X.A.units + 64 < cLine) : CallR X (.builtin "max") (rMaxA X.K) := (cr_max hc).or (cr_maxT hc hu)
theorem pr_max1 : Pr K (rMaxA K) fMax1 := fun M H vs xs x m Q ht c hf k => by
  unfold fMax1 at hf
  split at hf
  · split at hf
    · rename_i b ns hn
      cases hf
      obtain ⟨v, rfl, c1⟩ := c.one
      obtain ⟨a, us, rfl, h1, q1⟩ := c1.lst
      have e := q1.intsL hn
      subst e
      refine .inl ⟨a, b :: ns, rfl, .inl (.inl h1), by simp, fun z hz hle => ?_⟩
      obtain ⟨s1, s2, s3⟩ := lmax_spec ns b
      have e : z = lmax b ns := by
        have l1 : lmax b ns ≤ z := hle _ (by rcases s1 with s1 | s1 <;> simp [s1])
        rcases List.mem_cons.mp hz with e | hz
        · subst e; omega
        · have := s3 z hz; omega
      rw [e]
      exact k _ _ _ (mk_c ht (.i _))
    · cases hf
  · split at hf
    · rename_i b ns hn
      cases hf
      obtain ⟨v, rfl, c1⟩ := c.one
      obtain ⟨a, us, rfl, h1, q1⟩ := c1.tup
      have e := q1.intsL hn
      subst e
      exact .inr ⟨a, b, ns, rfl, h1, k _ _ _ (mk_c ht (.i _))⟩
    · cases hf
  · cases hf
def fAll : List Dt → Option Vl
  | [.l xs] => (blsL xs).map fun bs => (.b (bs.all id), .c)
  | _ => none
def fAny : List Dt → Option Vl
  | [.l xs] => (blsL xs).map fun bs => (.b (bs.any id), .c)
  | _ => none
theorem pr_all : Pr K (rAll K) fAll := fun M H vs xs x m Q ht c hf k => by
  unfold fAll at hf
  split at hf
  · simp only [Option.map_eq_some_iff, Prod.mk.injEq] at hf
    obtain ⟨ns, hn, rfl, rfl⟩ := hf
    obtain ⟨v, rfl, c1⟩ := c.one
    obtain ⟨a, us, rfl, h1, q1⟩ := c1.lst
    have e := q1.blsL hn
    subst e
    exact ⟨a, ns, rfl, .inl (.inl h1), k _ _ _ (mk_c ht (.b _))⟩
  · cases hf
theorem pr_any : Pr K (rAny K) fAny := fun M H vs xs x m Q ht c hf k => by
  unfold fAny at hf
  split at hf
  · simp only [Option.map_eq_some_iff, Prod.mk.injEq] at hf
    obtain ⟨ns, hn, rfl, rfl⟩ := hf
    obtain ⟨v, rfl, c1⟩ := c.one
    obtain ⟨a, us, rfl, h1, q1⟩ := c1.lst
    have e := q1.blsL hn
    subst e
    exact ⟨a, ns, rfl, .inl (.inl h1), k _ _ _ (mk_c ht (.b _))⟩
  · cases hf
def cutD (xs : List Dt) (lo hi : Option Int) : List Dt := (xs.drop (HT.sIx xs.length 0 lo)).take (HT.sIx xs.length xs.length hi - HT.sIx xs.length 0 lo)
theorem CoL.take {vs : List V} {xs : List Dt} (c : CoL K M H vs xs) : ∀ n, CoL K M H (vs.take n) (xs.take n) := by
  induction c using CoL.rec (motive_1 := fun _ _ _ => True) with
  | nil => intro n; simp; exact .nil
  | cons h q _ ih =>
    intro n
    cases n with
    | zero => exact .nil
    | succ n => exact .cons h (ih n)
  | _ => trivial
theorem CoL.drop {vs : List V} {xs : List Dt} (c : CoL K M H vs xs) : ∀ n, CoL K M H (vs.drop n) (xs.drop n) := by
  induction c using CoL.rec (motive_1 := fun _ _ _ => True) with
  | nil => intro n; simp; exact .nil
  | cons h q _ ih =>
    intro n
    cases n with
    | zero => exact .cons h q
    | succ n => exact ih n
  | _ => trivial
theorem CoL.cut {vs : List V} {xs : List Dt} (c : CoL K M H vs xs) (lo hi : Option Int) : CoL K M H (cutV vs lo hi) (cutD xs lo hi) := by
  unfold cutV cutD
  rw [c.len]
  exact (c.drop _).take _
/-- x[lo:hi] -/
def fSl (lo hi : Option Int) : Dt → Option Vl
  | .l xs => some (.l (cutD xs lo hi), .t)
  | .z xs => some (.l (cutD xs lo hi), .t)
  | .t xs => some (.t (cutD xs lo hi), .c)
  | _ => none
def rSlAll (K : PySem.W.Frag) : V → Option Int → Option Int → Hp → VK → Prop := fun x lo hi H Q => rSlL K x lo hi H Q ∨ rSlA K x lo hi H Q
theorem sl_all : SlR X (rSlAll X.K) := sl_list.or sl_tupA
theorem pr_sl {lo hi : Option Int} {v : V} {x y : Dt} {m : Md} {Q : VK} (ht : Hotty M H) (c : Co K M H v x) (hf : fSl lo hi x = some (y, m)) (k : ∀ v H' F, Mk K H M v y m H' F → Q v H') : rSlAll K v lo hi H Q := by
  unfold fSl at hf
  split at hf
  · cases hf
    obtain ⟨a, us, rfl, h1, q1⟩ := c.lst
    exact .inl ⟨a, us, rfl, .inl (.inl h1), fun p hp => k _ _ _ (mk_lst ht hp (q1.cut lo hi))⟩
  · cases hf
    obtain ⟨a, us, rfl, h1, q1⟩ := c.frz
    exact .inl ⟨a, us, rfl, h1.sq, fun p hp => k _ _ _ (mk_lst ht hp (q1.cut lo hi))⟩
  · cases hf
    obtain ⟨a, us, rfl, h1, q1⟩ := c.tup
    have cu := q1.cut lo hi
    refine .inr ⟨a, us, rfl, h1, fun hw => ?_, fun _ p hp => k _ _ _ (mk_tup ht hp cu)⟩
    have e : cutV us lo hi = us := by
      unfold cutV
      rw [hw.1, hw.2]
      simp
    rw [e] at cu
    exact k _ _ _ (mk_c ht (.t h1 cu))
  · cases hf
def evP : Option (Ev → Ou Vl) → Ev → Ou (Option Int)
  | none, r => .ok none r
  | some f, r => match f r with
    | .ok (.i n, _) r' => .ok (some n) r'
    | .ok _ _ => .no
    | .ex c fs r' => .ex c fs r'
    | .no => .no
inductive JP (X : Cx) (cl : Str → Addr) (W : WX) : Option Expr → Option (Ev → Ou Vl) → Prop
  | none : JP X cl W none none
  | some {e : Expr} {f : Ev → Ou Vl} : JE X cl W e f → JP X cl W (some e) (some f)
def tPt (K : PySem.W.Frag) (cl : Str → Addr) (W : WX) : Option (Ev → Ou Vl) → TO
  | none => tNoPart
  | some f => tPart (tI K cl W f)
variable {cl : Str → Addr} {W : WX} {σ : L2.St}
theorem JP.po {o : Option Expr} {p : Option (Ev → Ou Vl)} (h : JP X cl W o p) (tk : Takes X W) : PO X o (tPt X.K cl W p) := by
  cases h with
  | none => exact po_none
  | some h => exact po_some (h tk)
theorem tPt_ok {p : Option (Ev → Ou Vl)} {r : Ev} {G : Nat → List Addr} {Q : Option Int → Hp → Prop} (e : ER K r σ G M H)
    (h : match evP p r with
      | .ok o r' => ∀ H' M' G', ER K r' σ G' M' H' → Evo H M G H' M' G' [] → Q o H'
      | .ex c fs r' => ∀ d H' M' G', XX K r' σ H M G fs d H' M' G' → W (.ref (cl c)) d σ H'
      | .no => False) : tPt K cl W p σ H Q := by
  cases p with
  | none => exact h H M G e .refl
  | some f =>
    show tI K cl W f σ H _
    refine ⟨r, M, G, e, ?_⟩
    simp only [evP] at h
    cases hf : f r with
    | no => rw [hf] at h; exact h
    | ex c fs r' => rw [hf] at h; exact h
    | ok xm r' =>
      obtain ⟨x, m⟩ := xm
      rw [hf] at h
      intro v H' M' G' F p
      cases x with
      | i n =>
        obtain ⟨M2, e2, v2, c2⟩ := p.giveUp e.hot
        exact ⟨n, c2.int, h H' M2 G' e2 v2⟩
      | _ => exact h.elim
def mSl (A : Am) (lo hi : Option (Ev → Ou Vl)) : Ev → Ou Vl := fun r => match evA [A] r with
  | .ok ys r1 => match evP lo r1 with
    | .ok l r2 => match evP hi r2 with
      | .ok u r3 => match look r3 ys with
        | some [x] => match fSl l u x with
          | some (y, m) => .ok (y, m) (if y.flat then r3 else frz ys r3)
          | none => .no
        | _ => .no
      | .ex c fs r3 => .ex c fs r3
      | .no => .no
    | .ex c fs r2 => .ex c fs r2
    | .no => .no
  | .ex c fs r1 => .ex c fs r1
  | .no => .no
theorem mSl_ok {A : Am} {lo hi : Option (Ev → Ou Vl)} {Q : VK} (h : tI K cl W (mSl A lo hi) σ H Q) : tSl (rSlAll K) (tO K cl W A) (tPt K cl W lo) (tPt K cl W hi) σ H Q := by
  obtain ⟨r, M, G, e, h⟩ := h
  show tOs K cl W [A] σ H fun vs H1 => ap1 (fun x H1 _ => tPt K cl W lo σ H1 fun l H2 => tPt K cl W hi σ H2 fun u H3 => rSlAll K x l u H3 Q) vs H1 Q
  refine tOs_ok [A] e ?_
  simp only [mSl] at h
  cases ha : evA [A] r with
  | no => rw [ha] at h; exact h
  | ex c fs r1 => rw [ha] at h; exact h
  | ok ys r1 =>
  rw [ha] at h
  intro vs H1 M1 G1 e1 v1 a1
  have hlen : vs.length = 1 := by rw [a1.len, evA_len _ ha]; rfl
  match vs, hlen, a1 with
  | [v], _, a1 =>
  show tPt K cl W lo σ H1 _
  refine tPt_ok e1 ?_
  simp only at h
  cases hlo : evP lo r1 with
  | no => rw [hlo] at h; exact h
  | ex c fs r2 => rw [hlo] at h; exact fun d H' M' G' p => h d H' M' G' ⟨p.er, v1.trans e.hot p.ev, p.xd⟩
  | ok l r2 =>
  rw [hlo] at h
  intro H2 M2 G2 e2 v2
  have v12 := v1.trans e.hot v2
  refine tPt_ok e2 ?_
  simp only at h
  cases hhi : evP hi r2 with
  | no => rw [hhi] at h; exact h
  | ex c fs r3 => rw [hhi] at h; exact fun d H' M' G' p => h d H' M' G' ⟨p.er, v12.trans e.hot p.ev, p.xd⟩
  | ok u r3 =>
  rw [hhi] at h
  intro H3 M3 G3 e3 v3
  have v13 := v12.trans e.hot v3
  have a3 : AgL K M3 H3 σ [v] ys := (a1.fm (e1.fm v2)).fm (e2.fm v3)
  simp only at h
  cases hl : look r3 ys with
  | none => rw [hl] at h; exact h.elim
  | some xs =>
  rw [hl] at h
  have cc : CoL K (fun b => M3 b ∧ b ∉ owns G3 ys) H3 [v] xs := look_cold e3 (fun b z => z.1) (fun b hb z => z.2 hb) a3 hl
  have ht3 : Hotty (fun b => M3 b ∧ b ∉ owns G3 ys) H3 := fun b z => e3.hot b z.1
  cases cc with
  | @cons _ _ x _ c1 c2 =>
  cases c2
  simp only at h
  cases hf : fSl l u x with
  | none => rw [hf] at h; exact h.elim
  | some ym =>
  obtain ⟨y, m⟩ := ym
  rw [hf] at h
  simp only at h
  by_cases hx : y.flat = true
  · rw [if_pos hx] at h
    exact pr_sl ht3 c1 hf fun v H4 F p => h v H4 _ _ F (p.px e3 v13 e.hot hx)
  · rw [if_neg hx] at h
    obtain ⟨G4, e4, s4⟩ := e3.frz ys
    have v4 : Evo H3 M3 G3 H3 (fun b => M3 b ∧ b ∉ owns G3 ys) G4 [] := ⟨fun _ _ h _ => h, fun _ h => h, fun b z => .inl z.1, fun b h hb => ⟨h, fun z => let ⟨i, q⟩ := mem_owns z; hb i q⟩, fun i b hb => .inl ⟨i, s4 i b hb⟩, fun _ h => nomatch h⟩
    exact pr_sl ht3 c1 hf fun v H4 F p => h v H4 _ _ F (p.px2 e4 (v13.trans e.hot v4) e.hot)
theorem je_sl {e : Expr} {lo hi : Option Expr} {A : Am} {pl ph : Option (Ev → Ou Vl)} {p2 pos : Pos} (he : JO X cl W e A) (hl : JP X cl W lo pl) (hh : JP X cl W hi ph) : JE X cl W (.Subscript e (.Slice lo hi none p2) pos) (mSl A pl ph) := fun tk =>
  (pe_slice sl_all (he.pe tk) (hl.po tk) (hh.po tk)).yimp fun _ _ _ q => mSl_ok q
end
end Y
namespace Y
open PySem L2 PyProof.Rows
section
variable {K : PySem.W.Frag} {cl : Str → Addr} {W : WX} {io : Bool} {M M' M0 : Addr → Prop} {H H' H0 : Hp} {G G' G0 : Nat → List Addr} {r r' : Ev} {σ σ0 : L2.St} {D : Ends}
/-- one slot's lists are changed -/
theorem ER.wr {i : Nat} {v : V} {x' : Dt} {m' : Md} {F' : List Addr} (e : ER K r σ G M H) (hv : σ[i]? = some (some v)) (same : ∀ b o, H b = some o → b ∉ G i → H' b = some o) (grow : ∀ b, M' b → M b ∨ H b = none)
    (keep : ∀ j b, j ≠ i → b ∈ G j → M' b) (hot : Hotty M' H') (rp : Rp K M' H' m' v x' F') (nd : F'.Nodup) (k : ∀ b ∈ F', M' b ∧ ∀ j, j ≠ i → b ∉ G j) :
    ER K (r.set i (some (x', m'))) σ (fun j => if j = i then F' else G j) M' H' := by
  have e2 : ER K (r.set i none) σ (fun j => if j = i then [] else G j) M' H' := (e.drop i).evoF (fun b o h z => same b o h fun q => by
    rcases z with z | ⟨j, z⟩
    · exact z (e.sub i b q)
    · by_cases y : j = i
      · simp [y] at z
      · simp only [if_neg y] at z
        exact e.dj j i y b z q) grow (fun j b hb => by
    by_cases y : j = i
    · simp [y] at hb
    · simp only [if_neg y] at hb
      exact keep j b y hb) hot
  have e3 := put_back hv e2 rp nd fun b hb => ⟨(k b hb).1, fun j hj => by
    by_cases y : j = i
    · simp [y] at hj
    · simp only [if_neg y] at hj
      exact (k b hb).2 j y hj⟩
  rw [List.set_set] at e3
  have g : (fun j => if j = i then F' else if j = i then [] else G j) = fun j => if j = i then F' else G j := by
    funext j; by_cases y : j = i <;> simp [y]
  rw [g] at e3
  exact e3
theorem SqT.up {a b : Addr} {us vs : List V} {u : HO} (h : SqT K H b vs) (ha : H a = some (.lst us)) : SqT K (upd H a u) b vs := by
  rcases h with h | h
  · refine .inl ?_
    have nb : b ≠ a := fun q => by
      rw [q] at h
      rcases h with h | ⟨o, h⟩ <;> (rw [ha] at h; cases h)
    rcases h with h | ⟨o, h⟩
    · exact .inl (by rw [upd_ne nb]; exact h)
    · exact .inr ⟨o, by rw [upd_ne nb]; exact h⟩
  · exact .inr h
theorem rd_up {a b : Addr} {us vs : List V} {u : HO} (h : Rd H b (.tup vs)) (ha : H a = some (.lst us)) : Rd (upd H a u) b (.tup vs) := by
  have nb : b ≠ a := fun q => by
    rw [q] at h
    rcases h with h | ⟨o, h⟩ <;> (rw [ha] at h; cases h)
  rcases h with h | ⟨o, h⟩
  · exact .inl (by rw [upd_ne nb]; exact h)
  · exact .inr ⟨o, by rw [upd_ne nb]; exact h⟩
theorem frz_up {a b : Addr} {us : List V} {u w : HO} {o : Obj} (h : H b = some (.frz o w)) (ha : H a = some (.lst us)) : upd H a u b = some (.frz o w) := by
  have nb : b ≠ a := fun q => by rw [q, ha] at h; cases h
  rw [upd_ne nb]; exact h
theorem Ho.up {a : Addr} {us : List V} {u : HO} {v : V} {x : Dt} {F : List Addr} (h : Ho K H v x F) (ha : H a = some (.lst us)) (hn : a ∉ F) : Ho K (upd H a u) v x F :=
  h.stay (fun b xs z => rd_up z ha) (fun b o w z => frz_up z ha) fun b hb => upd_ne fun q => hn (q ▸ hb)
theorem HoL.up {a : Addr} {us : List V} {u : HO} {v : List V} {x : List Dt} {F : List Addr} (h : HoL K H v x F) (ha : H a = some (.lst us)) (hn : a ∉ F) : HoL K (upd H a u) v x F :=
  h.stay (fun b xs z => rd_up z ha) (fun b o w z => frz_up z ha) fun b hb => upd_ne fun q => hn (q ▸ hb)
theorem fm_up {a : Addr} {us ws : List V} (ht : Hotty M H) (ha : M a) (h : H a = some (.lst us)) : Fm M H M (upd H a (.lst ws)) :=
  ⟨fun b o e hn => by rw [upd_ne fun q => hn (by rw [q]; exact ha)]; exact e, fun b z => .inl z, ht⟩
theorem hot_up {a : Addr} {ws : List V} (ht : Hotty M H) : Hotty M (upd H a (.lst ws)) := fun b z => by
  by_cases q : b = a
  · rw [q]; exact ⟨_, upd_same, trivial⟩
  · rw [upd_ne q]; exact ht b z
/-- a list's items after one more -/
def apL : Vl → Vl → Option Vl
  | (.l xs, .t), y => if xs.length < LIM then some (.l (xs ++ [y.1]), .t) else none
  | (.l xs, .a), y => if xs.length < LIM ∧ zfl y = true then some (.l (xs ++ [y.1]), .a) else none
  | _, _ => none
def sApp (i : Nat) (f : Ev → Ou Vl) : Ev → So := sWith f fun y r => match r[i]? with
  | some (some x) => match apL x y with
    | some x' => .nx (r.set i (some x'))
    | none => .no
  | _ => .no
theorem lim_lt {n : Nat} (h : n < LIM) : n < sizeLine := Nat.lt_of_lt_of_le h (by decide)
/-- what the machine does with a list that grows by one: the heap alone -/
theorem ap_go {i : Nat} {x x' : Vl} {y : Dt} {my : Md} {w v : V} {F : List Addr} (e : ER K r σ G M H) (hr : r[i]? = some (some x)) (hv : σ[i]? = some (some v)) (rp : Rp K M H my w y F) (nd : F.Nodup) (hot : ∀ b ∈ F, M b ∧ ∀ j, b ∉ G j) (ha : apL x (y, my) = some x') :
    ∃ a us, v = .ref a ∧ H a = some (.lst us) ∧ us.length < sizeLine ∧ ∃ M' F', ER K (r.set i (some x')) σ (fun j => if j = i then F' else G j) M' (upd H a (.lst (us ++ [w]))) ∧ (∀ b ∈ F', b ∈ G i ∨ b ∈ F) ∧ (∀ b, M' b → M b) ∧ (∀ b, M b → b ∉ F → M' b) ∧ a ∈ G i := by
  obtain ⟨x, m⟩ := x
  obtain ⟨v', hv', rpx⟩ := e.at_ i x m hr
  rw [hv] at hv'; cases hv'
  have hx : ∃ xs, x = .l xs := by
    cases x with
    | l xs => exact ⟨xs, rfl⟩
    | _ => simp [apL] at ha
  obtain ⟨xs, rfl⟩ := hx
  cases m with
  | c => simp [apL] at ha
  | t =>
    simp only [apL] at ha
    split at ha
    · rename_i hl
      cases ha
      obtain ⟨a, us, zs, rfl, hz, hg, h3, c⟩ := rpx
      cases hz
      have aG : a ∈ G i := by rw [hg]; simp
      have aM := e.sub i a aG
      refine ⟨a, us, rfl, h3, by rw [c.len]; exact lim_lt hl, fun b => M b ∧ b ∉ F, [a], e.wr hv (fun b o h hb => by rw [upd_ne fun q => hb (by rw [q]; exact aG)]; exact h) (fun b z => .inl z.1) (fun j b _ hb => ⟨e.sub j b hb, fun z => (hot b z).2 j hb⟩) (fun b z => hot_up e.hot b z.1) ⟨a, us ++ [w], xs ++ [y], rfl, rfl, rfl, upd_same, ?_⟩ (by simp) (fun b hb => ?_), fun b hb => .inl (by rw [hg]; exact hb), fun b z => z.1, fun b h1 h2 => ⟨h1, h2⟩, aG⟩
      · have c2 : CoL K (fun b => M b ∧ b ∉ F) H us xs := c.less (fun b z => z.1) e.hot
        have c3 : Co K (fun b => M b ∧ b ∉ F) H w y := rp.cold e.hot (fun b hb z => z.2 hb) fun b z => z.1
        exact (c2.snoc c3).fm (fm_up (fun b z => e.hot b z.1) ⟨aM, fun z => (hot a z).2 i aG⟩ h3)
      · rw [List.mem_singleton.mp hb]
        exact ⟨⟨aM, fun z => (hot a z).2 i aG⟩, fun j hj z => e.dj j i hj a z aG⟩
    · cases ha
  | a =>
    simp only [apL] at ha
    split at ha
    · rename_i hl
      cases ha
      have rpx : Ho K H v (.l xs) (G i) := rpx
      have hy := rp.toA hl.2
      generalize hG : G i = Gi at rpx
      cases rpx with
      | @l a us _ F1 h3 c =>
        have aG : a ∈ G i := by rw [hG]; exact List.mem_cons_self
        have nG := e.nd i
        rw [hG] at nG
        obtain ⟨n1, n2⟩ := List.nodup_cons.mp nG
        have aF : a ∉ F := fun z => (hot a z).2 i aG
        have FG : ∀ b ∈ F, b ∉ F1 := fun b hb z => (hot b hb).2 i (by rw [hG]; exact List.mem_cons_of_mem _ z)
        have ln : ∀ {us : List V} {xs : List Dt} {F : List Addr}, HoL K H us xs F → us.length = xs.length := by
          intro us xs F h
          exact (h.cold (M := fun _ => False) fun _ _ z => z).len
        refine ⟨a, us, rfl, h3, by rw [ln c]; exact lim_lt hl.1, M, a :: (F1 ++ F), e.wr hv (fun b o h hb => by rw [upd_ne fun q => hb (by rw [q]; exact aG)]; exact h) (fun b z => .inl z) (fun j b _ hb => e.sub j b hb) (hot_up e.hot) (Ho.l upd_same ((c.snoc hy).up h3 (by simp [n1, aF]))) ?_ (fun b hb => ?_), fun b hb => ?_, fun b z => z, fun b h _ => h, by simp⟩
        · refine List.nodup_cons.mpr ⟨by simp [n1, aF], List.nodup_append.mpr ⟨n2, nd, fun b hb c hc q => FG c hc (q ▸ hb)⟩⟩
        · rcases List.mem_cons.mp hb with q | hb
          · rw [q]; exact ⟨e.sub i a aG, fun j hj z => e.dj j i hj a z aG⟩
          · rcases List.mem_append.mp hb with hb | hb
            · have bG : b ∈ G i := by rw [hG]; exact List.mem_cons_of_mem _ hb
              exact ⟨e.sub i b bG, fun j hj z => e.dj j i hj b z bG⟩
            · exact ⟨(hot b hb).1, fun j _ => (hot b hb).2 j⟩
        · rcases List.mem_cons.mp hb with q | hb
          · rw [q]; exact .inl List.mem_cons_self
          · rcases List.mem_append.mp hb with hb | hb
            · exact .inl (List.mem_cons_of_mem _ hb)
            · exact .inr hb
    · cases ha
/-- the state behind it, as from the statement's beginning -/
theorem ap_evo {x : Dt} {m : Md} {w : V} {F F' : List Addr} {i : Nat} {a : Addr} {us : List V} {M2 : Addr → Prop} (e : ER K r σ G M H) (p : PX K r' σ H M G w x m H' M' G' F) (hF : ∀ b ∈ F', b ∈ G' i ∨ b ∈ F) (h1 : ∀ b, M2 b → M' b) (h2 : ∀ b, M' b → b ∉ F → M2 b) (ha : a ∈ G' i) :
    Evo H M G (upd H' a (.lst us)) M2 (fun j => if j = i then F' else G' j) [] := by
  have na : ∀ b o, H b = some o → (∀ j, b ∉ G j) → b ≠ a := fun b o h hb q => by
    rcases p.ev.env i a ha with ⟨j, z⟩ | z
    · exact hb j (by rw [q]; exact z)
    · rw [q, z] at h; cases h
  refine ⟨fun b o h hb => by rw [upd_ne (na b o h hb)]; exact p.ev.pres b o h hb, fun b h => ?_, fun b z => p.ev.grow b (h1 b z), fun b h hb => h2 b (p.ev.keep b h hb) fun z => ?_, fun j b hb => ?_, fun _ z => nomatch z⟩
  · by_cases q : b = a
    · rw [q, upd_same] at h; cases h
    · rw [upd_ne q] at h; exact p.ev.dom b h
  · rcases p.ev.res b z with ⟨j, q⟩ | q
    · exact hb j q
    · obtain ⟨zs, q2, _⟩ := e.hot b h
      rw [q2] at q; cases q
  · by_cases q : j = i
    · simp only [if_pos q] at hb
      exact (hF b hb).elim (p.ev.env i b) (p.ev.res b)
    · simp only [if_neg q] at hb
      exact p.ev.env j b hb
theorem ty_list {a : Addr} {us : List V} (h : H a = some (.lst us)) : tyV K "list" (.ref a) H := .inl ⟨rfl, us, .inl (.inl h)⟩
/-- who holds a list knows it -/
theorem ER.isL {i : Nat} {x : Vl} (e : ER K r σ G M H) (hr : r[i]? = some (some x)) (hx : ∃ xs, x.1 = .l xs) : ∃ a us, σ[i]? = some (some (.ref a)) ∧ H a = some (.lst us) := by
  obtain ⟨x, m⟩ := x
  obtain ⟨xs, hx⟩ := hx
  simp only at hx
  subst hx
  obtain ⟨v, hv, rp⟩ := e.at_ i _ m hr
  cases m with
  | c =>
    obtain ⟨a, us, rfl, h, _⟩ := rp.1.lst
    exact ⟨a, us, hv, h⟩
  | t =>
    obtain ⟨a, us, zs, rfl, _, _, h, _⟩ := rp
    exact ⟨a, us, hv, h⟩
  | a =>
    have rp : Ho K H v (.l xs) (G i) := rp
    generalize G i = Gi at rp
    cases rp with
    | l h _ => exact ⟨_, _, hv, h⟩
def isL (i : Nat) (r : Ev) : Bool := match r[i]? with
  | some (some (.l _, _)) => true
  | _ => false
theorem ER.isL' {i : Nat} (e : ER K r σ G M H) (h : Y.isL i r = true) : ∃ a us, σ[i]? = some (some (.ref a)) ∧ H a = some (.lst us) := by
  unfold Y.isL at h
  split at h
  · rename_i xs m hr
    exact e.isL hr ⟨xs, rfl⟩
  · cases h
def sAppG (i : Nat) (f : Ev → Ou Vl) : Ev → So := fun r => if isL i r then sApp i f r else .no
end
section
variable {X : Cx} {cl : Str → Addr} {W : WX} {io : Bool}
theorem js_app {o a : Expr} {f : Ev → Ou Vl} {ap cp pos : Pos} (i : Nat) (ho : PE X o (tVar i)) (ha : JE X cl W a f) (hbase : attributeBase o "append" X.env (eval o X.env) = eval o X.env := by rfl)
    (hfew : ((backTo cp (starEach [a] X.env)).all (fun x => !x.1) && (backToKw cp (keywordEach [] X.env)).all (fun x => x.1.isSome) && decide (([a] : List Expr).length + ([] : List Keyword).length + (if ([] : List Keyword).isEmpty then 0 else 1) < 30)) = true := by rfl)
    (hline : (ap.endLine == cp.line) = true := by rfl) (hs : starEach [a] X.env = (false, eval a X.env) :: starEach [] X.env := by rfl) (hplain : (backTo cp (starEach [] X.env)).any (·.1) = false := by rfl) (hsw : swapsWith (.Call (.Attribute o "append" ap) [a] [] cp) none pos.line X.env = pure false := by rfl) :
    JS X cl W io (.Expr (.Call (.Attribute o "append" ap) [a] [] cp) pos) (sAppG i f) := fun tk =>
  (ps_expr (pe_bm PySem.F.plainAttrs_list PySem.F.slot_list_append PySem.F.type_list_append mt_append ho (pa_cons (ha tk) pa_nil hs) hbase hfew hline hs hplain) hsw).yimp fun D σ H ⟨r, M, G, e, q⟩ => by
    simp only [sAppG] at q
    split at q
    · rename_i hL
      obtain ⟨a0, us0, hv0, hh0⟩ := e.isL' hL
      refine ⟨.ref a0, hv0, ty_list hh0, ?_⟩
      have q : tIS X.K cl W io (sApp i f) D σ H := ⟨r, M, G, e, q⟩
      refine tIS_with q fun r M G y m r' w H' M' G' F e p k => ?_
      cases hr : r'[i]? with
      | none => simp only [hr] at k; exact k.elim
      | some o =>
        cases o with
        | none => simp only [hr] at k; exact k.elim
        | some x =>
          simp only [hr] at k
          cases hx : apL x (y, m) with
          | none => simp only [hx] at k; exact k.elim
          | some x' =>
            simp only [hx] at k
            obtain ⟨a, us, h1, h2, h3, M2, F', e2, hF, m1, m2, aG⟩ := ap_go p.er hr hv0 p.rp p.nd p.hot hx
            cases h1
            refine ⟨a0, us, w, rfl, rfl, h2, h3, ?_⟩
            exact k σ _ M2 _ ⟨e2, ap_evo e p hF m1 m2 aG, fun _ => rfl⟩
    · exact q.elim
end
section
variable {K : PySem.W.Frag} {cl : Str → Addr} {W : WX} {io : Bool} {M M' M0 : Addr → Prop} {H H' H0 : Hp} {G G' G0 : Nat → List Addr} {r r' : Ev} {σ σ0 : L2.St} {D : Ends}
theorem CoL.set {vs : List V} {xs : List Dt} {w : V} {y : Dt} : ∀ {j : Nat}, CoL K M H vs xs → Co K M H w y → CoL K M H (vs.set j w) (xs.set j y)
  | _, .nil, _ => .nil
  | 0, .cons _ q, c => .cons c q
  | j + 1, .cons h q, c => .cons h (CoL.set q c)
theorem HoL.len {vs : List V} {xs : List Dt} {F : List Addr} (h : HoL K H vs xs F) : vs.length = xs.length := (h.cold (M := fun _ => False) fun _ _ z => z).len
theorem HoL.set {w : V} {y : Dt} {Fy : List Addr} (hy : Ho K H w y Fy) (ny : Fy.Nodup) : ∀ {j : Nat} {vs : List V} {xs : List Dt} {F : List Addr}, j < xs.length → HoL K H vs xs F → F.Nodup → (∀ b ∈ Fy, b ∉ F) → ∃ F', HoL K H (vs.set j w) (xs.set j y) F' ∧ (∀ b ∈ F', b ∈ F ∨ b ∈ Fy) ∧ F'.Nodup
  | _, _, _, _, hj, .nil, _, _ => by simp at hj
  | 0, _, _, _, hj, .cons (F := F1) (F' := F2) h q, nd, dj => by
    obtain ⟨n1, n2, n3⟩ := List.nodup_append.mp nd
    exact ⟨Fy ++ F2, .cons hy q, fun b hb => (List.mem_append.mp hb).elim .inr fun z => .inl (List.mem_append_right _ z), List.nodup_append.mpr ⟨ny, n2, fun a ha b hb z => dj a ha (by rw [z]; exact List.mem_append_right _ hb)⟩⟩
  | j + 1, _, _, _, hj, .cons (F := F1) (F' := F2) h q, nd, dj => by
    obtain ⟨n1, n2, n3⟩ := List.nodup_append.mp nd
    obtain ⟨F', h1, h2, h3⟩ := HoL.set hy ny (j := j) (by simpa using hj) q n2 fun b hb z => dj b hb (List.mem_append_right _ z)
    refine ⟨F1 ++ F', .cons h h1, fun b hb => ?_, List.nodup_append.mpr ⟨n1, h3, fun a ha b hb z => ?_⟩⟩
    · rcases List.mem_append.mp hb with hb | hb
      · exact .inl (List.mem_append_left _ hb)
      · exact (h2 b hb).imp (List.mem_append_right _) id
    · rcases h2 b hb with hb | hb
      · exact n3 a ha b hb z
      · exact dj b hb (List.mem_append_left _ (z ▸ ha))
/-- an item stored -/
def stL : Vl → Int → Vl → Option Vl
  | (.l xs, .t), k, y => (ixN xs.length k).map fun j => (.l (xs.set j y.1), .t)
  | (.l xs, .a), k, y => if zfl y = true then (ixN xs.length k).map fun j => (.l (xs.set j y.1), .a) else none
  | _, _, _ => none
def tgI (i : Nat) (f : Ev → Ou Vl) : Vl → Ev → Option Ev := fun y r => if isL i r then
    match f r with
    | .ok (.i k, _) r1 => match r1[i]? with
      | some (some x) => (stL x k y).map fun x' => r1.set i (some x')
      | _ => none
    | _ => none
  else none
theorem ixN_lt {n : Nat} {k : Int} {j : Nat} (h : ixN n k = some j) : j < n := by
  unfold ixN at h
  repeat' split at h
  all_goals first | (cases h; omega) | (simp at h; omega) | cases h
theorem st_go {i : Nat} {x x' : Vl} {k : Int} {y : Dt} {my : Md} {w v : V} {F : List Addr} (e : ER K r σ G M H) (hr : r[i]? = some (some x)) (hv : σ[i]? = some (some v)) (rp : Rp K M H my w y F) (nd : F.Nodup) (hot : ∀ b ∈ F, M b ∧ ∀ j, b ∉ G j) (ha : stL x k (y, my) = some x') :
    ∃ a us j, v = .ref a ∧ H a = some (.lst us) ∧ ixN us.length k = some j ∧ ∃ M' F', ER K (r.set i (some x')) σ (fun j => if j = i then F' else G j) M' (upd H a (.lst (us.set j w))) ∧ (∀ b ∈ F', b ∈ G i ∨ b ∈ F) ∧ (∀ b, M' b → M b) ∧ (∀ b, M b → b ∉ F → M' b) ∧ a ∈ G i := by
  obtain ⟨x, m⟩ := x
  obtain ⟨v', hv', rpx⟩ := e.at_ i x m hr
  rw [hv] at hv'; cases hv'
  have hx : ∃ xs, x = .l xs := by
    cases x with
    | l xs => exact ⟨xs, rfl⟩
    | _ => simp [stL] at ha
  obtain ⟨xs, rfl⟩ := hx
  cases m with
  | c => simp [stL] at ha
  | t =>
    simp only [stL, Option.map_eq_some_iff] at ha
    obtain ⟨j, hj, rfl⟩ := ha
    obtain ⟨a, us, zs, rfl, hz, hg, h3, c⟩ := rpx
    cases hz
    have aG : a ∈ G i := by rw [hg]; simp
    have aM := e.sub i a aG
    refine ⟨a, us, j, rfl, h3, by rw [c.len]; exact hj, fun b => M b ∧ b ∉ F, [a], e.wr hv (fun b o h hb => by rw [upd_ne fun q => hb (by rw [q]; exact aG)]; exact h) (fun b z => .inl z.1) (fun j b _ hb => ⟨e.sub j b hb, fun z => (hot b z).2 j hb⟩) (fun b z => hot_up e.hot b z.1) ⟨a, us.set j w, xs.set j y, rfl, rfl, rfl, upd_same, ?_⟩ (by simp) (fun b hb => ?_), fun b hb => .inl (by rw [hg]; exact hb), fun b z => z.1, fun b h1 h2 => ⟨h1, h2⟩, aG⟩
    · have c2 : CoL K (fun b => M b ∧ b ∉ F) H us xs := c.less (fun b z => z.1) e.hot
      have c3 : Co K (fun b => M b ∧ b ∉ F) H w y := rp.cold e.hot (fun b hb z => z.2 hb) fun b z => z.1
      exact (c2.set c3).fm (fm_up (fun b z => e.hot b z.1) ⟨aM, fun z => (hot a z).2 i aG⟩ h3)
    · rw [List.mem_singleton.mp hb]
      exact ⟨⟨aM, fun z => (hot a z).2 i aG⟩, fun j hj z => e.dj j i hj a z aG⟩
  | a =>
    simp only [stL] at ha
    split at ha
    · rename_i hl
      simp only [Option.map_eq_some_iff] at ha
      obtain ⟨j, hj, rfl⟩ := ha
      have rpx : Ho K H v (.l xs) (G i) := rpx
      have hy := rp.toA hl
      generalize hG : G i = Gi at rpx
      cases rpx with
      | @l a us _ F1 h3 c =>
        have aG : a ∈ G i := by rw [hG]; exact List.mem_cons_self
        have nG := e.nd i
        rw [hG] at nG
        obtain ⟨n1, n2⟩ := List.nodup_cons.mp nG
        have aF : a ∉ F := fun z => (hot a z).2 i aG
        have FG : ∀ b ∈ F, b ∉ F1 := fun b hb z => (hot b hb).2 i (by rw [hG]; exact List.mem_cons_of_mem _ z)
        obtain ⟨F', c2, s2, nd2⟩ := HoL.set hy nd (ixN_lt hj) c n2 FG
        have aF' : a ∉ F' := fun z => (s2 a z).elim n1 aF
        refine ⟨a, us, j, rfl, h3, by rw [c.len]; exact hj, M, a :: F', e.wr hv (fun b o h hb => by rw [upd_ne fun q => hb (by rw [q]; exact aG)]; exact h) (fun b z => .inl z) (fun j b _ hb => e.sub j b hb) (hot_up e.hot) (Ho.l upd_same (c2.up h3 aF')) (List.nodup_cons.mpr ⟨aF', nd2⟩) (fun b hb => ?_), fun b hb => ?_, fun b z => z, fun b h _ => h, by simp⟩
        · rcases List.mem_cons.mp hb with q | hb
          · rw [q]; exact ⟨e.sub i a aG, fun j hj z => e.dj j i hj a z aG⟩
          · rcases s2 b hb with hb | hb
            · have bG : b ∈ G i := by rw [hG]; exact List.mem_cons_of_mem _ hb
              exact ⟨e.sub i b bG, fun j hj z => e.dj j i hj b z bG⟩
            · exact ⟨(hot b hb).1, fun j _ => (hot b hb).2 j⟩
        · rcases List.mem_cons.mp hb with q | hb
          · rw [q]; exact .inl List.mem_cons_self
          · exact (s2 b hb).imp (List.mem_cons_of_mem _) id
    · cases ha
theorem tg_ix {i : Nat} {f : Ev → Ou Vl} : TgOk K io (gSub (tVar i) (tI K cl W f) rSetL) (tgI i f) := fun r σ G M H v x m F r' Q e rp nd hot ht k => by
  unfold tgI at ht
  split at ht
  · rename_i hL
    obtain ⟨a0, us0, hv0, hh0⟩ := e.isL' hL
    refine ⟨.ref a0, hv0, r, M, G, e, ?_⟩
    cases hf : f r with
    | no => rw [hf] at ht; cases ht
    | ex c fs r1 => rw [hf] at ht; cases ht
    | ok km r1 =>
      obtain ⟨kd, mk⟩ := km
      rw [hf] at ht
      cases kd with
      | i k0 =>
        simp only at ht
        intro u H1 M1 G1 F1 p
        have hu : u = .int k0 := by
          obtain ⟨M2, _, _, c⟩ := p.giveUp e.hot
          exact c.int
        subst hu
        cases hr : r1[i]? with
        | none => rw [hr] at ht; cases ht
        | some o =>
          cases o with
          | none => rw [hr] at ht; cases ht
          | some xv =>
            rw [hr] at ht
            simp only [Option.map_eq_some_iff] at ht
            obtain ⟨x', hx', rfl⟩ := ht
            obtain ⟨rp1, hot1, _⟩ := rp.evo hot e p.ev
            obtain ⟨a, us, j, h1, h2, h3, M2, F', e2, hF, m1, m2, aG⟩ := st_go p.er hr hv0 rp1 nd hot1 hx'
            cases h1
            have na : ∀ b o, H b = some o → (∀ j, b ∉ G j) → b ≠ a0 := fun b o h hb q => by
              rcases p.ev.env i a0 aG with ⟨j, z⟩ | z
              · exact hb j (by rw [q]; exact z)
              · rw [q, z] at h; cases h
            refine ⟨a0, us, k0, j, rfl, rfl, h2, h3, k σ _ M2 _ e2 (fun b o h hb _ => by rw [upd_ne (na b o h hb)]; exact p.ev.pres b o h hb) (fun b h => ?_) (fun b z => p.ev.grow b (m1 b z)) (fun b h hb hf => m2 b (p.ev.keep b h hb) hf) (fun l b hb => ?_) fun _ => rfl⟩
            · by_cases q : b = a0
              · rw [q, upd_same] at h; cases h
              · rw [upd_ne q] at h; exact p.ev.dom b h
            · by_cases q : l = i
              · simp only [if_pos q] at hb
                rcases hF b hb with z | z
                · exact (p.ev.env i b z).imp id .inr
                · exact .inr (.inl z)
              · simp only [if_neg q] at hb
                exact (p.ev.env l b hb).imp id .inr
      | _ => cases ht
  · cases ht
end
section
variable {X : Cx} {cl : Str → Addr} {W : WX} {io : Bool}
theorem js_setI {o ix e : Expr} {f fi : Ev → Ou Vl} {sp pos : Pos} (i : Nat) (ho : PE X o (tVar i)) (hi : JE X cl W ix fi) (he : JE X cl W e f)
    (ha : ∀ v, assign (.Subscript o ix sp) X.env v = (do
      let ov ← holding [v] (eval o X.env)
      let iv ← holding [v, ov] (eval ix X.env)
      standAt sp
      holding [v, ov, iv] (setItem ov iv v)
      release [v, ov, iv] []) := by intro _; rfl)
    (hs : swapsWithSole [.Subscript o ix sp] e pos.line X.env = pure false := by rfl) (hw : swappedStores [.Subscript o ix sp] e X.env = pure none := by rfl)
    (h1 : (assignEach [.Subscript o ix sp] X.env).map (·.2) = [assign (.Subscript o ix sp) X.env] := by rfl) : JS X cl W io (.Assign [.Subscript o ix sp] e pos) (sAsg f (tgI i fi)) := fun tk =>
  (ps_asg (he tk) (pg_sub ho (hi tk) set_list ha) hs hw h1).yimp fun _ _ _ q => asg_go tg_ix q
end
end Y
namespace Y
open PySem L2 PyProof.Rows
/-- enumerate(v), v's iterator told by how it begins -/
theorem enumB_new {v : Value} {o : Obj} {S : Heap → Prop} (B : Begins v o S) : Meets (Builtin.«enumerate.__new__» ⟨[.type "enumerate", v], []⟩) (fun _ R s => S s.heap ∧ R (.ok (.ret (.ref (s.heap.push o).objs.size)))
    { s with heap := (s.heap.push o).push { cls := .type "enumerate", data := .fields #[.none, .bool false, .ref s.heap.objs.size, rawInt 0, .none, .none] } }) :=
  .of_wp fun prog w A R s h => by
    obtain ⟨hp, g, d, tk, os⟩ := s; obtain ⟨h1, h⟩ := h
    have hsub := sub_enumerate
    have q1 : ∀ {A' : Around} {E Q : Value → Shared → Prop}, Q (.ref hp.objs.size) ⟨hp.push o, g, d, tk, os⟩ → wpAny (model prog w) A' (pyIter v) Q E ⟨hp, g, d, tk, os⟩ := fun q => B.iter prog w _ _ ⟨hp, g, d, tk, os⟩ _ h1 q
    wp_walk using q1
    refine wpAny_stack_any fun st => wpAny_pure ?_
    split
    · rename_i c _ _ _ _ _
      cases (c == Value.type "enumerate") <;> (wp_walk using q1; exact ⟨_, rfl, h⟩)
    · wp_walk using q1
      exact ⟨_, rfl, h⟩
theorem call_enumB {prog : Program} {w : World} {A : Around} {E : Value → Shared → Prop} {s : Shared} {v : Value} {o : Obj} {S : Heap → Prop} {Q : Value → Shared → Prop} (B : Begins v o S) (h1 : S s.heap)
    (h : ∀ h', IsEnum h' (s.heap.objs.size + 1) s.heap.objs.size 0 .none → h'.get? s.heap.objs.size = some o → (∀ b u, s.heap.get? b = some u → h'.get? b = some u) → Q (.ref (s.heap.objs.size + 1)) { s with heap := h' }) :
    wpAny (model prog w) A (PySem.call (.type "enumerate") [v]) Q E s := by
  refine callType_new F.called_enumerate (by decide) (F.typeCall_enumerate_1 _) (F.newCall_enumerate_1 _) (fun obj => F.args_object_init_2 obj _) F.entry_enumerate_new (enumB_new B) ⟨h1, ?_⟩
  have hz : (s.heap.push o).objs.size = s.heap.objs.size + 1 := Heap.size_push ..
  show _ ∧ _
  rw [hz]
  have he : IsEnum ((s.heap.push o).push { cls := .type "enumerate", data := .fields #[.none, .bool false, .ref s.heap.objs.size, rawInt 0, .none, .none] }) (s.heap.objs.size + 1) s.heap.objs.size 0 .none := by
    have z := Heap.get?_push_size (s.heap.push o) (o := { cls := .type "enumerate", data := .fields #[.none, .bool false, .ref s.heap.objs.size, rawInt 0, .none, .none] }) rfl
    rwa [hz] at z
  exact ⟨⟨_, he, rfl⟩, h _ he (Heap.get?_push_of_some _ (Heap.get?_push_size _ B.free)) fun b u x => Heap.get?_push_of_some _ (Heap.get?_push_of_some _ x)⟩
/-- a tuple's items with their numbers -/
def IteT (K : PySem.W.Frag) (a : Addr) : It :=
  ⟨fun i H => ∃ (xs : List V) (x : V), SqT K H a xs ∧ xs[i]? = some x, fun i H v H' => ∃ T x, v = .ref T ∧ H T = none ∧ H' = upd H T (.tup [.int (i : Nat), x]) ∧ ∀ xs, SqT K H a xs → xs[i]? = some x, fun i H => ∃ xs : List V, SqT K H a xs ∧ xs.length ≤ i⟩
theorem turn_enumT {P : Program} {w : World} {K : PySem.W.Frag} {elts : List Expr} {kk : Nat} {tpos : Pos} (a e it : Addr) : Turn P w K (.Tuple elts kk tpos) (IteT K a) [e, it] e (fun i h => (∃ old, IsEnum h e it ((i : Nat) : Int) old) ∧ h.IsTupleIter it a i ∧ e ≠ it ∧ e ≠ a ∧ a ≠ it) where
  mem := by simp
  obj := fun i h ⟨⟨old, he⟩, ⟨o, ho, hc, hd⟩, _⟩ b hb => by
    have e' : b = e ∨ b = it := by simpa using hb
    rcases e' with rfl | rfl
    · exact ⟨_, he, fun v q => nomatch q⟩
    · exact ⟨o, ho, fun v q => by rw [hd] at q; cases q⟩
  keep := fun i h h' ⟨⟨old, he⟩, hi, hne⟩ k => ⟨⟨old, k e (by simp) _ he⟩, hi.at fun o q => k it (by simp) o q, hne⟩
  item := by
    intro X hP hw hK hc i pins s σ H E I hf st hg
    subst hP hw hK
    obtain ⟨⟨old, he⟩, hit, hne, hea, hai⟩ := st
    obtain ⟨xs, x, hq, hx⟩ := hg
    obtain ⟨its, rv, p, hz⟩ := I.tuple hq
    obtain ⟨u, hu, ru⟩ := rv.get hx
    have hel : e < s.heap.objs.size := Heap.lt_size he
    have hil : it < s.heap.objs.size := by obtain ⟨_, q, _⟩ := hit; exact Heap.lt_size q
    have D := Draws.tuple (prog := X.prog) (w := X.w) (A := X.A.in1) (I.ok.hd hc) it a hai its.toArray
    have hi : i < its.toArray.size := by
      have := (List.getElem?_eq_some_iff.mp hu).1
      simpa using this
    refine wpAny_pyNext_enum_itemD D he ⟨hit, p⟩ hi hne (by simp [hne, hea]) fun z h' tk hP ho hs hT hsz hk => ?_
    have hzu : z = u := by
      have hP : its.toArray[i]? = some z := hP
      have : its[i]? = some z := by simpa using hP
      rw [hu] at this
      exact (Option.some.inj this).symm
    subst hzu
    refine ⟨_, rfl, wpAny_letOwnedTupleGo_enum (s := { s with heap := h', toks := tk + 1 }) ho fun h'' he' sb => ?_⟩
    have hT2 : h''.get? s.heap.objs.size = some { cls := .type "tuple", data := .seq #[.int i tk, z] } := (sb.2 _ (Nat.ne_of_gt hel)).trans hT
    have new : ObjOk X.prog X.w (upd H s.heap.objs.size (.tup [.int (i : Nat), x])) h'' s.heap.objs.size (.tup [.int (i : Nat), x]) := ⟨by show 2 ≤ sizeLine; decide, [.int i tk, z], .cons ⟨_, rfl⟩ (.cons ru .nil), ⟨_, hT2, rfl, _, rfl⟩⟩
    have I1 : Inv X pins σ (upd H s.heap.objs.size (.tup [.int (i : Nat), x])) { s with heap := h'', toks := tk + 1 } :=
      I.turnedNew (ch := [e, it]) (fun b ob hb q => (sb.2 b fun y => hb (by simp [y])).trans (hk b ob (fun y => hb (by simp [y])) (fun y => hb (by simp [y])) q)) hf (Nat.le_refl _) new
    refine ⟨.ref s.heap.objs.size, _, I1, rfl, ⟨_, x, rfl, I.hok.fresh (Nat.le_refl _), rfl, fun ys hy => by rw [I.tuple_inj hy hq]; exact hx⟩, ⟨⟨z, ?_⟩, hs.1.at fun o q => (sb.2 it (Ne.symm hne)).trans q, hne, hea, hai⟩, fun b hb => ?_⟩
    · rw [show ((i + 1 : Nat) : Int) = (i : Int) + 1 by omega]; exact he'
    · have e' : b = e ∨ b = it := by simpa using hb
      have hb' : b < s.heap.objs.size := by rcases e' with rfl | rfl <;> assumption
      rw [upd_ne (Nat.ne_of_lt hb')]
      exact (hf b hb).1
  done := by
    intro X hP hw hK hc i pins s σ H E I hf st hg
    subst hP hw hK
    obtain ⟨⟨old, he⟩, hit, hne, hea, hai⟩ := st
    obtain ⟨xs, hq, hx⟩ := hg
    obtain ⟨its, rv, p, hz⟩ := I.tuple hq
    obtain ⟨f0, f1, f2, f3, f4, f5⟩ := hf it (by simp)
    have hl := rv.length
    have D := Draws.tuple (prog := X.prog) (w := X.w) (A := X.A.in1) (I.ok.hd hc) it a hai its.toArray
    have step : wpAny (model X.prog X.w) X.A.in1 (Builtin.SmallTypes.nextOf (.ref it)) (fun _ _ => False) (fun x s' => ∃ h', x = x ∧ Heap.ExtBut it s.heap h' ∧ s' = { s with heap := h' } ∧ ∃ z o, x = .ref z ∧ h'.get? z = some o ∧ o.cls = .type "StopIteration") s :=
      wpAny_nextOf_tuple_end (I.ok.hd hc) hit p (by simp; omega) fun h' x eb hx' => let ⟨o, ho, hc'⟩ := hx'; ⟨h', rfl, eb, rfl, x, o, rfl, ho, hc'⟩
    unfold pyNext
    refine wpAny_bind (wpAny_attempt (wpAny_callSpecial?_slot (name := Str.ofString "__next__") (show s.TypeIs (.ref e) "enumerate" from ⟨_, he, rfl⟩) F.slot_enumerate_next (wpAny_call_entry F.slot_enumerate_next ⟨_, he, rfl⟩ F.entry_enumerate_next ?_ (F.args_enumerate_next_1 _))))
    show wpAny _ _ (field (.ref e) 2 >>= _) _ _ _
    refine wpAny_bind (wpAny_field he rfl (x := .ref it) rfl ?_)
    refine wpAny_bind (wpAny_mono step (fun _ _ z => z.elim) fun x s' ⟨h', _, eb, es, z, o, ex, ho, hc'⟩ => ?_)
    subst es; subst ex
    exact wpAny_bind (wpAny_isInstance (T := "StopIteration") (b := true) ⟨o, ho, hc'⟩ isSubtype_stop (wpAny_pure ⟨rfl, I.turned (t' := s.toks) (fun b o hb q => eb b o hb q) f0 f1 f3 f4 f5⟩))
  self := fun A i s Q E ⟨⟨_, he⟩, _⟩ h => wpAny_pyIter_enum he h
theorem enumT_go {X : Cx} {pins : List (Addr × Obj)} {σ : L2.St} {H1 : Hp} {s1 : Shared} {R : It → Hp → Prop} {tpos : Pos} {elts : List Expr} {kk : Nat} {us : List Value} {vs xs : List V} {a : Addr} (I1 : Inv X pins σ H1 s1) (r1 : Vals vs us) (ex : vs = [.ref a]) (hq : SqT X.K H1 a xs) (q : R (IteT X.K a) H1) :
    wpAny (model X.prog X.w) X.A (PySem.call (.type "enumerate") us) (fun v s' => wpAny (model X.prog X.w) X.A (pyIter v) (PIE X pins σ (.Tuple elts kk tpos) R) X.xe s') X.xe s1 := by
  subst ex
  rw [Vals.ref1 r1]
  obtain ⟨its, rv, p', hz⟩ := I1.tuple hq
  have hlt : a < s1.heap.objs.size := by obtain ⟨_, z, _⟩ := p'; exact Heap.lt_size z
  refine call_enumB (begins_tuple a its.toArray) p' fun h' he hit hk => wpAny_pyIter_enum he ?_
  have I2 : Inv X pins σ H1 { s1 with heap := h' } := I1.kept (t' := s1.toks) hk
  refine ⟨s1.heap.objs.size + 1, [s1.heap.objs.size + 1, s1.heap.objs.size], _, _, H1, rfl, I2, turn_enumT a (s1.heap.objs.size + 1) s1.heap.objs.size, ⟨⟨.none, he⟩, ⟨_, hit, rfl, rfl⟩, Nat.succ_ne_self _, (Nat.ne_of_lt (Nat.lt_succ_of_lt hlt)).symm, Nat.ne_of_lt hlt⟩, fun b hb => ?_, q⟩
  have e' : b = s1.heap.objs.size + 1 ∨ b = s1.heap.objs.size := by simpa using hb
  have hle : s1.heap.objs.size ≤ b := by
    rcases e' with rfl | rfl
    · exact Nat.le_succ _
    · exact Nat.le_refl _
  exact I1.fpOk hle (I1.hok.fresh hle)
theorem enumL_go {X : Cx} {pins : List (Addr × Obj)} {σ : L2.St} {H1 : Hp} {s1 : Shared} {R : It → Hp → Prop} {tpos : Pos} {elts : List Expr} {kk : Nat} {us : List Value} {vs xs : List V} {a : Addr} (I1 : Inv X pins σ H1 s1) (r1 : Vals vs us) (ex : vs = [.ref a]) (hq : SqL X.K H1 a xs) (q : R (Ite X.K a) H1) :
    wpAny (model X.prog X.w) X.A (PySem.call (.type "enumerate") us) (fun v s' => wpAny (model X.prog X.w) X.A (pyIter v) (PIE X pins σ (.Tuple elts kk tpos) R) X.xe s') X.xe s1 := by
  subst ex
  rw [Vals.ref1 r1]
  obtain ⟨its, rv, p', hz⟩ := I1.list hq
  refine call_enumerate_list p'.isList fun h' he hit hsz hk => wpAny_pyIter_enum he ?_
  have I2 : Inv X pins σ H1 { s1 with heap := h' } := I1.kept (t' := s1.toks) hk
  refine ⟨s1.heap.objs.size + 1, [s1.heap.objs.size + 1, s1.heap.objs.size], _, _, H1, rfl, I2, turn_enum a (s1.heap.objs.size + 1) s1.heap.objs.size, ⟨⟨.none, he⟩, hit, Nat.succ_ne_self _⟩, fun b hb => ?_, q⟩
  have e' : b = s1.heap.objs.size + 1 ∨ b = s1.heap.objs.size := by simpa using hb
  have hle : s1.heap.objs.size ≤ b := by
    rcases e' with rfl | rfl
    · exact Nat.le_succ _
    · exact Nat.le_refl _
  exact I1.fpOk hle (I1.hok.fresh hle)
def iEnumA (K : PySem.W.Frag) (ta : TA) : TI := fun σ H R => ta σ H fun vs H1 => ∃ a xs, vs = [.ref a] ∧ ((SqL K H1 a xs ∧ R (Ite K a) H1) ∨ (SqT K H1 a xs ∧ R (IteT K a) H1))
end Y
namespace Y
open PySem L2 PyProof.Rows
section
variable {K : PySem.W.Frag} {cl : Str → Addr} {W : WX} {io : Bool} {M M' M0 : Addr → Prop} {H H' H0 : Hp} {G G' G0 : Nat → List Addr} {r r' : Ev} {σ σ0 : L2.St}
def PrS (K : PySem.W.Frag) (rr : List V → Hp → (It → Hp → Prop) → Prop) (f : List Dt → Option (List Dt)) : Prop :=
  ∀ (M : Addr → Prop) (H : Hp) (vs : List V) (xs ds : List Dt) (R : It → Hp → Prop), Hotty M H → CoL K M H vs xs → f xs = some ds → (∀ J, SrcOk K J M H ds → R J H) → rr vs H R
def mS (f : List Dt → Option (List Dt)) (as : List Am) : Ev → Ou (List Dt) := fun r => match evA as r with
  | .ok ys r1 => match look r1 ys with
    | some xs => match f xs with
      | some ds => .ok ds (frz ys r1)
      | none => .no
    | none => .no
  | .ex c fs r1 => .ex c fs r1
  | .no => .no
theorem mS_ok {rr : List V → Hp → (It → Hp → Prop) → Prop} {f : List Dt → Option (List Dt)} (hp : PrS K rr f) {as : List Am} {R : It → Hp → Prop} (h : tII K cl W (mS f as) σ H R) : tOs K cl W as σ H fun vs H1 => rr vs H1 R := by
  obtain ⟨r, M, G, e, h⟩ := h
  refine tOs_ok as e ?_
  simp only [mS] at h
  cases ha : evA as r with
  | no => rw [ha] at h; exact h
  | ex c fs r1 => rw [ha] at h; exact h
  | ok ys r1 =>
    rw [ha] at h
    simp only at h
    intro vs H1 M1 G1 e1 v1 a1
    cases hl : look r1 ys with
    | none => rw [hl] at h; exact h.elim
    | some xs =>
      rw [hl] at h
      simp only at h
      cases hf : f xs with
      | none => rw [hf] at h; exact h.elim
      | some ds =>
        rw [hf] at h
        simp only at h
        have cc : CoL K (fun b => M1 b ∧ b ∉ owns G1 ys) H1 vs xs := look_cold e1 (fun b z => z.1) (fun b hb z => z.2 hb) a1 hl
        have ht1 : Hotty (fun b => M1 b ∧ b ∉ owns G1 ys) H1 := fun b z => e1.hot b z.1
        obtain ⟨G2, e2, s2⟩ := e1.frz ys
        have v2 : Evo H1 M1 G1 H1 (fun b => M1 b ∧ b ∉ owns G1 ys) G2 [] := ⟨fun _ _ h _ => h, fun _ h => h, fun b z => .inl z.1, fun b h hb => ⟨h, fun z => let ⟨i, q⟩ := mem_owns z; hb i q⟩, fun i b hb => .inl ⟨i, s2 i b hb⟩, fun _ h => nomatch h⟩
        exact hp _ H1 vs xs ds R ht1 cc hf fun J so => h J H1 _ _ e2 (v1.trans e.hot v2) so
theorem src_walk {J : It} {xs : List Dt} {n : Nat} {P : Hp → Prop} {Yd : Nat → Hp → V → Hp → Prop} (w : Walk J n P Yd) (hn : n = xs.length) (hp : ∀ M1 H1, Fm M H M1 H1 → P H1)
    (hy : ∀ i x v M1 H1 H2, xs[i]? = some x → Fm M H M1 H1 → Hotty M1 H1 → Yd i H1 v H2 → (∀ b o, H1 b = some o → H2 b = some o) ∧ Co K M1 H2 v x) : SrcOk K J M H xs := by
  subst hn
  exact ⟨fun i M1 H1 hi f => w.goes i H1 hi (hp M1 H1 f), fun M1 H1 f => w.stops H1 (hp M1 H1 f), fun i x v M1 H1 H2 hx f ht y => hy i x v M1 H1 H2 hx f ht (w.yields i H1 v H2 (List.getElem?_eq_some_iff.mp hx).1 (hp M1 H1 f) y)⟩
theorem CoL.at' {us : List V} {xs : List Dt} (c : CoL K M H us xs) {i : Nat} {x : Dt} {v : V} (hx : xs[i]? = some x) (hv : us[i]? = some v) : Co K M H v x := by
  obtain ⟨w, h1, h2⟩ := c.get hx
  rw [hv] at h1; cases h1; exact h2
theorem src_list {a : Addr} {us : List V} {xs : List Dt} (h : ∀ M1 H1, Fm M H M1 H1 → SqL K H1 a us) (c : CoL K M H us xs) : SrcOk K (Itl K a) M H xs :=
  src_walk (walk_list (K := K) (a := a) (xs := us)) c.len h fun i x v M1 H1 H2 hx f ht ⟨e, hv⟩ => by
    subst e
    exact ⟨fun _ _ h => h, (c.fm f).at' hx hv⟩
theorem src_tup {a : Addr} {us : List V} {xs : List Dt} (h : SqT K H a us) (c : CoL K M H us xs) : SrcOk K (Itt K a) M H xs :=
  src_walk (walk_tup (K := K) (a := a) (xs := us)) c.len (fun M1 H1 f => f.sqT h) fun i x v M1 H1 H2 hx f ht ⟨e, hv⟩ => by
    subst e
    exact ⟨fun _ _ h => h, (c.fm f).at' hx hv⟩
def rngD (lo : Int) (n : Nat) : List Dt := (List.range n).map fun (i : Nat) => .i (lo + (i : Int))
theorem src_range {lo : Int} {n : Nat} (ht : Hotty M H) : SrcOk K (Itr lo n) M H (rngD lo n) :=
  src_walk (walk_range (lo := lo) (n := n)) (by simp [rngD]) (fun M1 H1 f => trivial) fun i x v M1 H1 H2 hx f ht ⟨e, hv⟩ => by
    subst e hv
    simp only [rngD, List.getElem?_map, Option.map_eq_some_iff] at hx
    obtain ⟨j, hj, rfl⟩ := hx
    obtain ⟨_, hj⟩ := List.getElem?_eq_some_iff.mp hj
    simp at hj
    subst hj
    exact ⟨fun _ _ h => h, .i _⟩
def rngC (lo c : Int) (n : Nat) : List Dt := (List.range n).map fun (i : Nat) => .i (lo + (i : Int) * c)
/-- a new pair -/
theorem co_pair {T : Addr} {x y : V} {dx dy : Dt} (ht : Hotty M H) (hT : H T = none) (cx : Co K M H x dx) (cy : Co K M H y dy) : (∀ b o, H b = some o → upd H T (.tup [x, y]) b = some o) ∧ Co K M (upd H T (.tup [x, y])) (.ref T) (.t [dx, dy]) := by
  have f : Fm M H M (upd H T (.tup [x, y])) := ⟨fun b o e _ => same_new hT b o e, fun b z => .inl z, ht⟩
  exact ⟨same_new hT, .t (.inl (.inl upd_same)) (.cons (cx.fm f) (.cons (cy.fm f) .nil))⟩
def enumD : Int → List Dt → List Dt
  | _, [] => []
  | k, x :: xs => .t [.i k, x] :: enumD (k + 1) xs
theorem enumD_len : ∀ (xs : List Dt) (k : Int), (enumD k xs).length = xs.length
  | [], _ => rfl
  | _ :: xs, k => by simp [enumD, enumD_len xs]
theorem enumD_at : ∀ (xs : List Dt) (k : Int) (i : Nat), (enumD k xs)[i]? = xs[i]?.map fun x => .t [.i (k + i), x]
  | [], _, _ => by simp [enumD]
  | x :: xs, k, 0 => by simp [enumD]
  | x :: xs, k, i + 1 => by
    simp only [enumD, List.getElem?_cons_succ]
    rw [enumD_at xs (k + 1) i]
    congr 1
    funext y
    rw [show k + 1 + (i : Int) = k + ((i + 1 : Nat) : Int) by omega]
theorem src_enum {a : Addr} {us : List V} {xs : List Dt} (h : ∀ M1 H1, Fm M H M1 H1 → SqL K H1 a us) (c : CoL K M H us xs) : SrcOk K (Ite K a) M H (enumD 0 xs) :=
  src_walk (walk_enum (K := K) (a := a) (xs := us)) (by rw [c.len, enumD_len]) h fun i x v M1 H1 H2 hx f ht ⟨T, x1, y1, e1, hT, e2, e3, e4⟩ => by
    subst e1 e2
    simp only [Option.some.injEq] at e3
    subst e3
    rw [enumD_at, Option.map_eq_some_iff] at hx
    obtain ⟨d, hd, rfl⟩ := hx
    have := co_pair ht hT (.i ((0 : Int) + i)) ((c.fm f).at' hd e4)
    simpa using this
def zipD : List Dt → List Dt → List Dt
  | x :: xs, y :: ys => .t [x, y] :: zipD xs ys
  | _, _ => []
theorem zipD_len : ∀ (xs ys : List Dt), (zipD xs ys).length = min xs.length ys.length
  | [], ys => by simp [zipD]
  | _ :: _, [] => by simp [zipD]
  | x :: xs, y :: ys => by simp [zipD, zipD_len xs ys]
theorem zipD_at : ∀ (xs ys : List Dt) (i : Nat) (d : Dt), (zipD xs ys)[i]? = some d → ∃ x y, xs[i]? = some x ∧ ys[i]? = some y ∧ d = .t [x, y]
  | [], ys, i, d, h => by simp [zipD] at h
  | _ :: _, [], i, d, h => by simp [zipD] at h
  | x :: xs, y :: ys, 0, d, h => by
    simp [zipD] at h
    exact ⟨x, y, rfl, rfl, h.symm⟩
  | x :: xs, y :: ys, i + 1, d, h => by
    simp only [zipD, List.getElem?_cons_succ] at h ⊢
    exact zipD_at xs ys i d h
theorem src_zip {a b : Addr} {us ws : List V} {xs ys : List Dt} (h1 : Rd H a (.lst us)) (hn1 : ¬ M a) (c1 : CoL K M H us xs) (h2 : Rd H b (.lst ws)) (hn2 : ¬ M b) (c2 : CoL K M H ws ys) : SrcOk K (Itz K a b) M H (zipD xs ys) :=
  src_walk (walk_zip (K := K) (a := a) (b := b) (xs := us) (ys := ws) rfl) (by rw [c1.len, c2.len, zipD_len]) (fun M1 H1 f => ⟨.inl (f.rd h1 hn1), .inl (f.rd h2 hn2)⟩) fun i x v M1 H1 H2 hx f ht ⟨T, x1, y1, e1, hT, e2, e3, e4⟩ => by
    subst e1 e2
    obtain ⟨dx, dy, q1, q2, rfl⟩ := zipD_at _ _ _ _ hx
    exact co_pair ht hT ((c1.fm f).at' q1 e3) ((c2.fm f).at' q2 e4)
theorem walk_zipT {a b : Addr} {xs ys : List V} {n : Nat} (hn : n = min xs.length ys.length) : Walk (RZ.ItzT K a b) n (fun H => SqT K H a xs ∧ SqT K H b ys) (YPair (fun i => xs[i]?) (fun i => ys[i]?)) := by
  subst hn
  refine ⟨fun i _ hi q => ?_, fun _ q => ⟨xs, ys, q.1, q.2, by omega⟩, fun i H v H' _ q y => ?_⟩
  · have h1 : i < xs.length := by omega
    have h2 : i < ys.length := by omega
    exact ⟨xs, ys, xs[i], ys[i], q.1, q.2, by simp [h1], by simp [h2]⟩
  · obtain ⟨T, x, z, h1, h2, h3, h4, h5⟩ := y
    exact ⟨T, x, z, h1, h2, h3, h4 xs q.1, h5 ys q.2⟩
theorem src_zipT {a b : Addr} {us ws : List V} {xs ys : List Dt} (h1 : SqT K H a us) (c1 : CoL K M H us xs) (h2 : SqT K H b ws) (c2 : CoL K M H ws ys) : SrcOk K (RZ.ItzT K a b) M H (zipD xs ys) :=
  src_walk (walk_zipT (K := K) (a := a) (b := b) (xs := us) (ys := ws) rfl) (by rw [c1.len, c2.len, zipD_len]) (fun M1 H1 f => ⟨f.sqT h1, f.sqT h2⟩) fun i x v M1 H1 H2 hx f ht ⟨T, x1, y1, e1, hT, e2, e3, e4⟩ => by
    subst e1 e2
    obtain ⟨dx, dy, q1, q2, rfl⟩ := zipD_at _ _ _ _ hx
    exact co_pair ht hT ((c1.fm f).at' q1 e3) ((c2.fm f).at' q2 e4)
end
section
variable {X : Cx} {cl : Str → Addr} {W : WX} {K : PySem.W.Frag}
def rSeq (K : PySem.W.Frag) : List V → Hp → (It → Hp → Prop) → Prop := fun vs H R => ∃ a, vs = [.ref a] ∧ (((∃ xs, SqL K H a xs) ∧ R (Itl K a) H) ∨ ((∃ xs, SqT K H a xs) ∧ R (Itt K a) H))
def iSeq (K : PySem.W.Frag) (tl : TE) : TI := fun σ H R => tl σ H fun x H1 => rSeq K [x] H1 R
theorem pi_seq {tg l : Expr} {tl : TE} (hl : PE X l tl) : PI X tg l (iSeq X.K tl) := by
  refine ⟨fun pins s σ H R I h => ?_⟩
  refine thn (hl.run pins s σ H _ I h) fun v s1 ⟨x, H1, I1, r1, q1⟩ => ?_
  obtain ⟨a, e, q⟩ := q1
  have e : x = .ref a := by simpa using e
  subst e
  cases r1
  rcases q with ⟨⟨xs, hq⟩, q⟩ | ⟨⟨xs, hq⟩, q⟩
  · obtain ⟨its, rv, p, hz⟩ := I1.list hq
    refine wpAny_pyIter_list p.isList ?_
    refine ⟨s1.heap.objs.size, [s1.heap.objs.size], _, _, H1, rfl, I1.kept (t' := s1.toks) fun b o e => Heap.get?_push_of_some _ e, turn_list a _, ⟨_, Heap.get?_push_size _ rfl, rfl, rfl⟩, fun b hb => ?_, q⟩
    have e : b = s1.heap.objs.size := by simpa using hb
    subst e
    exact I1.fpOk (Nat.le_refl _) (I1.hok.fresh (Nat.le_refl _))
  · obtain ⟨its, rv, p, hz⟩ := I1.tuple hq
    refine wpAny_pyIter_tuple (show s1.heap.IsTuple a its.toArray from p) ?_
    refine ⟨s1.heap.objs.size, [s1.heap.objs.size], _, _, H1, rfl, I1.kept (t' := s1.toks) fun b o e => Heap.get?_push_of_some _ e, turn_tuple a _, ⟨_, Heap.get?_push_size _ rfl, rfl, rfl⟩, fun b hb => ?_, q⟩
    have e : b = s1.heap.objs.size := by simpa using hb
    subst e
    exact I1.fpOk (Nat.le_refl _) (I1.hok.fresh (Nat.le_refl _))
def sSq : List Dt → Option (List Dt)
  | [.l xs] => some xs
  | [.t xs] => some xs
  | [.z xs] => some xs
  | _ => none
theorem Co.lst' {M : Addr → Prop} {H : Hp} {v : V} {xs : List Dt} (c : Co K M H v (.l xs)) : ∃ a vs, v = .ref a ∧ H a = some (.lst vs) ∧ ¬ M a ∧ CoL K M H vs xs := by cases c with | l h n q => exact ⟨_, _, rfl, h, n, q⟩
theorem ps_seq : PrS K (rSeq K) sSq := fun M H vs xs ds R ht c hf k => by
  unfold sSq at hf
  split at hf
  · cases hf
    obtain ⟨v, rfl, c1⟩ := c.one
    obtain ⟨a, us, rfl, h1, hn, q1⟩ := c1.lst'
    exact ⟨a, rfl, .inl ⟨⟨us, .inl (.inl h1)⟩, k _ (src_list (fun M1 H1 f => .inl (f.rd (.inl h1) hn)) q1)⟩⟩
  · cases hf
    obtain ⟨v, rfl, c1⟩ := c.one
    obtain ⟨a, us, rfl, h1, q1⟩ := c1.tup
    exact ⟨a, rfl, .inr ⟨⟨us, h1⟩, k _ (src_tup h1 q1)⟩⟩
  · cases hf
    obtain ⟨v, rfl, c1⟩ := c.one
    obtain ⟨a, us, rfl, h1, q1⟩ := c1.frz
    exact ⟨a, rfl, .inl ⟨⟨us, h1.sq⟩, k _ (src_list (fun M1 H1 f => (f.sqF h1).sq) q1)⟩⟩
  · cases hf
theorem ji_seq {tg e : Expr} {a : Am} (h : JO X cl W e a) : JI X cl W tg e (mS sSq [a]) := fun tk => (pi_seq (h.pe tk)).yimp fun σ H R q => mS_ok ps_seq q
def sRng1 : List Dt → Option (List Dt) := fun xs => match xs with
  | [.i j] => if -(2 ^ 60) ≤ j ∧ j ≤ LIM then some (rngD 0 j.toNat) else none
  | _ => none
theorem ps_rg1 : PrS K (fun vs H R => ∃ j : Int, vs = [.int j] ∧ -(2 ^ 62) ≤ j ∧ j < 2 ^ 62 ∧ R (Itr 0 j.toNat) H) sRng1 := fun M H vs xs ds R ht c hf k => by
  unfold sRng1 at hf
  split at hf
  · split at hf
    · rename_i hj
      cases hf
      obtain ⟨v, rfl, c1⟩ := c.one
      have := hj.2
      simp only [LIM] at this
      exact ⟨_, by rw [c1.int], by omega, by omega, k _ (src_range ht)⟩
    · cases hf
  · cases hf
def sRng2 : List Dt → Option (List Dt) := fun xs => match xs with
  | [.i i, .i j] => if -(2 ^ 60) ≤ i ∧ i ≤ 2 ^ 60 ∧ -(2 ^ 60) ≤ j ∧ j ≤ 2 ^ 60 ∧ j - i ≤ LIM then some (rngD i (j - i).toNat) else none
  | _ => none
/-- range(a, b, -1) -/
def sRng3 : List Dt → Option (List Dt) := fun xs => match xs with
  | [.i i, .i j, .i c] => if c = -1 ∧ -(2 ^ 60) ≤ i ∧ i ≤ 2 ^ 60 ∧ -(2 ^ 60) ≤ j ∧ j ≤ 2 ^ 60 ∧ i - j ≤ LIM then some (rngC i (-1) (i - j).toNat) else none
  | _ => none
theorem ji_rng1 {tg a : Expr} {A : Am} {p pos : Pos} (hg : Gl X "range") (hm : X.mg "range" = none) (ha : JO X cl W a A) (hs : starEach [a] X.env = [(false, eval a X.env)] := by rfl) : JI X cl W tg (.Call (.Name "range" p) [a] [] pos) (mS sRng1 [A]) := fun tk =>
  (pi_range1 hg hm ((ja_c ha ja_n hs).pa tk) hs).yimp fun σ H R q => mS_ok ps_rg1 q
def sEnum : List Dt → Option (List Dt)
  | [.l xs] => some (enumD 0 xs)
  | [.z xs] => some (enumD 0 xs)
  | [.t xs] => some (enumD 0 xs)
  | _ => none
theorem walk_enumT {a : Addr} {us : List V} : Walk (IteT K a) us.length (fun H => SqT K H a us) (YPair (fun i => some (.int (i : Nat))) (fun i => us[i]?)) := by
  refine ⟨fun i _ hi q => ⟨us, us[i], q, by simp [hi]⟩, fun _ q => ⟨us, q, Nat.le_refl _⟩, fun i H v H' _ q ⟨T, x, h1, h2, h3, h4⟩ => ⟨T, .int (i : Nat), x, h1, h2, h3, rfl, h4 us q⟩⟩
theorem src_enumT {a : Addr} {us : List V} {xs : List Dt} (h : SqT K H a us) (c : CoL K M H us xs) : SrcOk K (IteT K a) M H (enumD 0 xs) :=
  src_walk (walk_enumT (K := K) (a := a) (us := us)) (by rw [c.len, enumD_len]) (fun M1 H1 f => f.sqT h) fun i x v M1 H1 H2 hx f ht ⟨T, x1, y1, e1, hT, e2, e3, e4⟩ => by
    subst e1 e2
    simp only [Option.some.injEq] at e3
    subst e3
    rw [enumD_at, Option.map_eq_some_iff] at hx
    obtain ⟨d, hd, rfl⟩ := hx
    have := co_pair ht hT (.i ((0 : Int) + i)) ((c.fm f).at' hd e4)
    simpa using this
theorem ps_enum : PrS K (fun vs H R => ∃ a xs, vs = [.ref a] ∧ ((SqL K H a xs ∧ R (Ite K a) H) ∨ (SqT K H a xs ∧ R (IteT K a) H))) sEnum := fun M H vs xs ds R ht c hf k => by
  unfold sEnum at hf
  split at hf
  · cases hf
    obtain ⟨v, rfl, c1⟩ := c.one
    obtain ⟨a, us, rfl, h1, hn, q1⟩ := c1.lst'
    exact ⟨a, us, rfl, .inl ⟨.inl (.inl h1), k _ (src_enum (fun M1 H1 f => .inl (f.rd (.inl h1) hn)) q1)⟩⟩
  · cases hf
    obtain ⟨v, rfl, c1⟩ := c.one
    obtain ⟨a, us, rfl, h1, q1⟩ := c1.frz
    exact ⟨a, us, rfl, .inl ⟨h1.sq, k _ (src_enum (fun M1 H1 f => (f.sqF h1).sq) q1)⟩⟩
  · cases hf
    obtain ⟨v, rfl, c1⟩ := c.one
    obtain ⟨a, us, rfl, h1, q1⟩ := c1.tup
    exact ⟨a, us, rfl, .inr ⟨h1, k _ (src_enumT h1 q1)⟩⟩
  · cases hf
theorem pi_enumA {e : Expr} {ta : TA} {p pos tpos : Pos} {elts : List Expr} {kk : Nat} (hg : Gl X "enumerate") (hm : X.mg "enumerate" = none) (ha : PA X [e] ta) (hs : starEach [e] X.env = [(false, eval e X.env)] := by rfl) : PI X (.Tuple elts kk tpos) (.Call (.Name "enumerate" p) [e] [] pos) (iEnumA X.K ta) :=
  ⟨fun pins s σ H R I h => Call_ (ld_blt I hg hm boot_enumerate (PyProof.Rows.callWith_type1 (thn (ha.run pos pins s σ H _ I h) fun us s1 ⟨vs, H1, I1, r1, a, xs, ex, z⟩ => by
    rcases z with ⟨hq, q⟩ | ⟨hq, q⟩
    · exact enumL_go I1 r1 ex hq q
    · exact enumT_go I1 r1 ex hq q) hs rfl))⟩
theorem ji_enum {a : Expr} {A : Am} {p pos tpos : Pos} {elts : List Expr} {kk : Nat} (hg : Gl X "enumerate") (hm : X.mg "enumerate" = none) (ha : JO X cl W a A) (hs : starEach [a] X.env = [(false, eval a X.env)] := by rfl) : JI X cl W (.Tuple elts kk tpos) (.Call (.Name "enumerate" p) [a] [] pos) (mS sEnum [A]) := fun tk =>
  (pi_enumA hg hm ((ja_c ha ja_n hs).pa tk) hs).yimp fun σ H R q => mS_ok ps_enum q
def sZip : List Dt → Option (List Dt)
  | [.l xs, .l ys] => some (zipD xs ys)
  | [.t xs, .t ys] => some (zipD xs ys)
  | _ => none
theorem ps_zip : PrS K (fun vs H R => ∃ a b xs ys, vs = [.ref a, .ref b] ∧ ((SqL K H a xs ∧ SqL K H b ys ∧ R (Itz K a b) H) ∨ (SqT K H a xs ∧ SqT K H b ys ∧ R (RZ.ItzT K a b) H))) sZip := fun M H vs xs ds R ht c hf k => by
  unfold sZip at hf
  split at hf
  · cases hf
    obtain ⟨v, w, rfl, c1, c2⟩ := c.two
    obtain ⟨a, us, rfl, h1, hn, q1⟩ := c1.lst'
    obtain ⟨b, ws, rfl, h2, hn2, q2⟩ := c2.lst'
    exact ⟨a, b, us, ws, rfl, .inl ⟨.inl (.inl h1), .inl (.inl h2), k _ (src_zip (.inl h1) hn q1 (.inl h2) hn2 q2)⟩⟩
  · cases hf
    obtain ⟨v, w, rfl, c1, c2⟩ := c.two
    obtain ⟨a, us, rfl, h1, q1⟩ := c1.tup
    obtain ⟨b, ws, rfl, h2, q2⟩ := c2.tup
    exact ⟨a, b, us, ws, rfl, .inr ⟨h1, h2, k _ (src_zipT h1 q1 h2 q2)⟩⟩
  · cases hf
theorem ji_zip {a b : Expr} {A B : Am} {p pos tpos : Pos} {elts : List Expr} {kk : Nat} (hg : Gl X "zip") (hm : X.mg "zip" = none) (ha : JO X cl W a A) (hb : JO X cl W b B) (hs : starEach [a, b] X.env = (false, eval a X.env) :: starEach [b] X.env := by rfl) (hs2 : starEach [b] X.env = (false, eval b X.env) :: starEach [] X.env := by rfl)
    (hpl : (backTo pos (starEach [b] X.env)).any (·.1) = false := by rfl) : JI X cl W (.Tuple elts kk tpos) (.Call (.Name "zip" p) [a, b] [] pos) (mS sZip [A, B]) := fun tk =>
  (RZ.pi_zipA hg hm ((ja_c ha (ja_c hb ja_n hs2) hs).pa tk) hs hpl).yimp fun σ H R q => mS_ok ps_zip q
end
end Y
namespace Y
open PySem L2 PyProof.Rows PySem.W PySem.Calls
section
variable {prog : Program} {w : World} {A : Around} {E : Value → Shared → Prop} {s : Shared}
theorem collect_at {Q : List Value → Shared → Prop} (it : Addr) {T : String} {o : Obj} {items : Array Value} {n : Nat} (hT : T = "list" ∨ T = "tuple") (ho : s.heap.get? it = some o) (hc : o.cls = .type T) (hd : o.data = .seq items n)
    (hQ : ∀ h', (∀ b o', s.heap.get? b = some o' → h'.get? b = some o') → s.heap.objs.size ≤ h'.objs.size → Q items.toList { s with heap := h' }) (hsz : items.size ≤ sizeLine) : wpAny (model prog w) A (collect (.ref it)) Q E s := by
  unfold collect
  refine wpAny_bind (wpAny_runValue (codeAny_builtin F.entry_proto_collect ?_))
  rw [Around.under_plainId F.plain_proto_collect _]
  show wpAny _ A.in1 (newList [] >>= fun l => again (.builtin "list.__iadd__" ⟨[l, .ref it], []⟩)) _ _ s
  refine wpAny_bind (wpAny_newObj_type ?_)
  refine wpAny_pure ⟨plainId_quiet F.plain_list_iadd _, codeAny_builtin F.entry_list_iadd ?_⟩
  rw [Around.under_plainId F.plain_list_iadd _]
  show wpAny _ A.in1 (Builtin.List.listExtendWith (.ref s.heap.objs.size) (.ref it) (.ref s.heap.objs.size)) _ _ _
  have hS : (s.heap.push { cls := .type "list", data := .seq ([] : List Value).toArray }).get? s.heap.objs.size = some { cls := .type "list", data := .seq #[] 0 } := Heap.get?_push_size _ rfl
  have hS₂ := Heap.get?_update_self (Obj.mapSeq (· ++ items)) hS rfl
  have fin' : wpAny (model prog w) A (match Value.ref s.heap.objs.size with
      | Value.ref a => do
        match (← load a).data with
          | Data.seq xs _ => pure xs.toList
          | _ => unsupported "internal:collect"
      | _ => unsupported "internal:collect") Q E { s with heap := (s.heap.push { cls := .type "list", data := .seq ([] : List Value).toArray }).update s.heap.objs.size (Obj.mapSeq (· ++ items)) } := by
    show wpAny _ A (load s.heap.objs.size >>= _) _ _ _
    refine wpAny_bind (wpAny_load hS₂ ?_)
    refine wpAny_pure ?_
    have e : ((#[] : Array Value) ++ items).toList = items.toList := by simp
    show Q ((#[] : Array Value) ++ items).toList _
    rw [e]
    refine hQ _ (fun b o' hb => ?_) ?_
    · exact (Heap.get?_update_other _ _ (Nat.ne_of_gt (Heap.lt_size hb))).trans (Heap.get?_push_of_some _ hb)
    · rw [Heap.size_update, Heap.size_push]; exact Nat.le_succ _
  refine wpAny_mono (wpAny_extend_seq (hsz := hsz) (A := A) (R := fun r s' => r = .ok (.ret (.ref s.heap.objs.size)) ∧ s' = { s with heap := (s.heap.push { cls := .type "list", data := .seq ([] : List Value).toArray }).update s.heap.objs.size (Obj.mapSeq (· ++ items)) })
    (s := { s with heap := s.heap.push { cls := .type "list", data := .seq ([] : List Value).toArray } }) _ it _ 0 hT hS (Heap.get?_push_of_some _ ho) hc hd ⟨rfl, rfl⟩) (fun fin s' h => ?_) (fun e s' h => ?_)
  · cases fin with
    | done f =>
      obtain ⟨e, rfl⟩ := h
      cases e
      exact fin'
    | again c' => exact ⟨h.1, codeAny_mono h.2 fun r s'' hr => by obtain ⟨rfl, rfl⟩ := hr; exact fin'⟩
  · exact absurd h.1 (by simp)
/-- sorted(x), x a list or a tuple of alike data -/
theorem sorted_seqD {β : Type} {enc : β → PyData} {R : Value → β → Prop} {bs : List β} {l : Addr} {T : String} {o : Obj} {vs : List Value} {n : Nat} {Q : Value → Shared → Prop} (hT : T = "list" ∨ T = "tuple") (ho : s.heap.get? l = some o) (hc : o.cls = .type T) (hd : o.data = .seq vs.toArray n)
    (e : EachIs R vs bs) (er : EachIs (fun v b => ∃ as, Reads s.heap v (enc b) as) vs bs) (hal : AllAlike (bs.map enc)) (hk : Sortable (bs.map enc)) (hL : bs.length ≤ sizeLine) (hu : ∀ b, b ∈ bs → A.units + 2 + (enc b).depth < cLine)
    (h : ∀ h' out, (∀ b u, s.heap.get? b = some u → h'.get? b = some u) → out.length = bs.length → EachIs R out (bs.mergeSort (dataLe false enc)) → ∀ a ep, s.heap.objs.size ≤ a → h'.get? a = some (seqObj "list" (List.toArray out) ep) → Q (.ref a) { s with heap := h' }) :
    wpAny (model prog w) A (call (.builtin "sorted") [.ref l]) Q E s := by
  have hL' : vs.length ≤ sizeLine := by rw [e.length]; exact hL
  refine call_function_entry_kw kind_sorted plain_sorted entry_sorted (args_sorted1 _) ?_
  unfold Builtin.«sorted»
  refine wpAny_bind (m := checkCount "sorted" 1 1 _) (wpAny_pure ?_)
  refine wpAny_bind (collect_at l hT ho hc hd (fun h1 hk1 hz1 => ?_) (by rw [List.size_toArray]; exact hL'))
  refine wpAny_bind (wpAny_newList ?_ (by simpa using hL'))
  have at2 : (h1.push (seqObj "list" vs.toArray 0)).get? h1.objs.size = some (seqObj "list" vs.toArray 0) := Heap.get?_push_size _ rfl
  show wpAny _ _ _ _ _ { s with heap := h1.push (seqObj "list" vs.toArray 0) }
  have old2 : ∀ b u, s.heap.get? b = some u → b ≠ h1.objs.size ∧ (h1.push (seqObj "list" vs.toArray 0)).get? b = some u := fun b u q => ⟨Nat.ne_of_lt (Heap.lt_size (hk1 b u q)), Heap.get?_push_of_some _ (hk1 b u q)⟩
  refine wpAny_bind (wpAny_holding (wpAny_call_entry_kw slot_list_sort ⟨_, at2, rfl⟩ entry_list_sort ?body (args_list_sort _)))
  case body =>
    show wpAny (model prog w) A.in1.in1 (Builtin.«list.sort» ⟨[.ref h1.objs.size], []⟩) _ _ _
    have er' : EachIs (fun v b => ∃ as, Reads (sortingHeap (h1.push (seqObj "list" vs.toArray 0)) h1.objs.size vs) v (enc b) as) vs bs := er.mono fun _ _ ⟨as, r⟩ => ⟨as, PyProof.Rows.Reads.keeps (fun b u q => sortingHeap_old (old2 b u q).1 (old2 b u q).2) r⟩
    refine list_sort_vals (s := { s with heap := h1.push (seqObj "list" vs.toArray 0) }) (κ := dataKind (sortingHeap (h1.push (seqObj "list" vs.toArray 0)) h1.objs.size vs) (bs.map enc)) at2 (SortsAt.data (s := { s with heap := sortingHeap (h1.push (seqObj "list" vs.toArray 0)) h1.objs.size vs }) (each_map (R := fun v d => ∃ as, Reads (sortingHeap (h1.push (seqObj "list" vs.toArray 0)) h1.objs.size vs) v d as) enc er') hal hk (bound_map hu)) hL' ?_
    obtain ⟨ep, he⟩ := PyProof.Rows.sortedHeap_at (vs := vs) (out := (sortVals (dataKind (sortingHeap (h1.push (seqObj "list" vs.toArray 0)) h1.objs.size vs) (bs.map enc)) false vs vs).toArray) at2
    refine ⟨_, rfl, wpAny_pure ⟨_, rfl, ?_⟩⟩
    refine h _ _ (fun b u q => ?_) (by rw [sortVals_length false rfl]; exact e.length) (sortVals_data false e er' hal) _ ep ?_ he
    · have q2 := old2 b u q
      rw [PyProof.Rows.sortedHeap_old q2.1 (Heap.lt_size q2.2)]; exact q2.2
    · exact hz1
end
section
variable {X : Cx} {K : PySem.W.Frag} {M M' : Addr → Prop} {H H' : Hp}
def encD (b : V × Dt) : PyData := toP b.2
noncomputable def rSortD (K : PySem.W.Frag) : List V → Hp → VK → Prop := fun vs H Q => ∃ (a : Addr) (bs : List (V × Dt)), vs = [V.ref a] ∧ (SqL K H a (bs.map (·.1)) ∨ SqT K H a (bs.map (·.1))) ∧ (∀ b ∈ bs, Dp K H b.1 (toP b.2)) ∧ AllAlike (bs.map encD) ∧ Sortable (bs.map encD) ∧ (∀ b ∈ bs, (toP b.2).depth ≤ 50) ∧ bs.length ≤ sizeLine ∧
  ∀ p, H p = none → Q (.ref p) (upd H p (.lst ((bs.mergeSort (dataLe false encD)).map (·.1))))
theorem vals_each {pins : List (Addr × Obj)} {σ : L2.St} {s : Shared} (I : Inv X pins σ H s) : ∀ {bs : List (V × Dt)} {its : List Value}, Vals (bs.map (·.1)) its → (∀ b ∈ bs, Dp X.K H b.1 (toP b.2)) → EachIs (fun u b => ∃ as, Reads s.heap u (encD b) as) its bs ∧ EachIs (fun u b => RelV b.1 u) its bs
  | [], _, .nil, _ => ⟨.nil, .nil⟩
  | b :: bs, _, .cons r t, h => by
    obtain ⟨h1, h2⟩ := vals_each I t fun c hc => h c (List.mem_cons_of_mem _ hc)
    obtain ⟨as, ha⟩ := Dp.reads I _ _ _ (h b List.mem_cons_self) r
    exact ⟨.cons ⟨as, ha⟩ h1, .cons r h2⟩
theorem each_vals : ∀ {bs : List (V × Dt)} {its : List Value}, EachIs (fun u (b : V × Dt) => RelV b.1 u) its bs → Vals (bs.map (·.1)) its
  | _, _, .nil => .nil
  | _, _, .cons r t => .cons r (each_vals t)
theorem cr_sortD (hu : X.A.units + 64 < cLine) : CallR X (.builtin "sorted") (rSortD X.K) := by
  intro pins s σ H xs us Q I r h
  obtain ⟨a, bs, rfl, hs, hd, hal, hk, hdp, hL, q⟩ := h
  rw [Vals.ref1 r]
  have go : ∀ {T : String} {o : Obj} {its : List Value} {n : Nat}, T = "list" ∨ T = "tuple" → s.heap.get? a = some o → o.cls = .type T → o.data = .seq its.toArray n → Vals (bs.map (·.1)) its → wpAny (model X.prog X.w) X.A (call (.builtin "sorted") [.ref a]) (EP X pins σ Q) X.xe s := fun {T o its n} hT ho hc hdt rv => by
    obtain ⟨e1, e2⟩ := vals_each I rv hd
    refine sorted_seqD (enc := encD) hT ho hc hdt e2 e1 hal hk hL (fun b hb => by have : (encD b).depth ≤ 50 := hdp b hb; omega) fun h' out kp hlen hout p ep hp hat => ?_
    have vv := each_vals hout
    have hlen' : ((bs.mergeSort (dataLe false encD)).map (·.1)).length ≤ sizeLine := by rw [List.length_map, List.length_mergeSort]; exact hL
    exact ⟨.ref p, upd H p (.lst ((bs.mergeSort (dataLe false encD)).map (·.1))), I.laid (t' := s.toks) kp hp ⟨hlen', out, ep, vv, hat⟩, rfl, q p (I.hok.fresh hp)⟩
  rcases hs with hs | hs
  · obtain ⟨its, rv, ⟨⟨cls, dd, data, sl⟩, n, ho, hc, hdn, hd'⟩, hlen⟩ := I.list hs
    exact go (.inl rfl) ho hc hd' rv
  · obtain ⟨its, rv, ⟨⟨cls, dd, data, sl⟩, ho, hc, n, hd'⟩, hlen⟩ := I.tuple hs
    exact go (.inr rfl) ho hc hd' rv
/-- the order of data -/
noncomputable def leD (x y : Dt) : Bool := dataLe false toP x y
noncomputable def sortD (xs : List Dt) : List Dt := xs.mergeSort leD
def alikeL (ds : List PyData) : Bool := ds.all fun d => ds.all fun d' => alike d d'
theorem alikeL_ok {ds : List PyData} (h : alikeL ds = true) : AllAlike ds := fun d hd d' hd' => by
  simp only [alikeL, List.all_eq_true] at h
  exact h d hd d' hd'
def tupHd : PyData → Bool
  | .tuple (_ :: _) => true
  | _ => false
def noTup : PyData → Bool
  | .tuple _ => false
  | .none => false
  | _ => true
def sortable (ds : List PyData) : Bool := ds.all tupHd || ds.all noTup
theorem sortable_ok {ds : List PyData} (h : sortable ds = true) : Sortable ds := by
  simp only [sortable, Bool.or_eq_true, List.all_eq_true] at h
  rcases h with h | h
  · refine .inl fun d hd => ?_
    have := h d hd
    unfold tupHd at this
    split at this
    · exact ⟨_, _, rfl⟩
    · cases this
  · refine .inr fun d hd => ?_
    have := h d hd
    constructor
    · intro z; subst z; simp [noTup] at this
    · intro xs z; subst z; simp [noTup] at this
def okSort (xs : List Dt) : Bool := alikeL (xs.map toP) && sortable (xs.map toP) && xs.all (fun x => decide ((toP x).depth ≤ 50)) && decide (xs.length ≤ LIM)
noncomputable def fSorted : List Dt → Option Vl
  | [.l xs] => if okSort xs then some (.l (sortD xs), .t) else none
  | [.t xs] => if okSort xs then some (.l (sortD xs), .t) else none
  | [.z xs] => if okSort xs then some (.l (sortD xs), .t) else none
  | _ => none
theorem CoL.zip {vs : List V} {xs : List Dt} (c : CoL K M H vs xs) : (vs.zip xs).map (·.1) = vs ∧ (vs.zip xs).map (·.2) = xs ∧ ∀ b ∈ vs.zip xs, Co K M H b.1 b.2 := by
  induction c using CoL.rec (motive_1 := fun _ _ _ => True) with
  | nil => exact ⟨rfl, rfl, fun _ z => nomatch z⟩
  | cons h q _ ih =>
    obtain ⟨h1, h2, h3⟩ := ih
    refine ⟨by simp [h1], by simp [h2], fun b hb => ?_⟩
    rcases List.mem_cons.mp hb with e | hb
    · subst e; exact h
    · exact h3 b hb
  | _ => trivial
theorem CoL.of_pairs : ∀ {bs : List (V × Dt)}, (∀ b ∈ bs, Co K M H b.1 b.2) → CoL K M H (bs.map (·.1)) (bs.map (·.2))
  | [], _ => .nil
  | b :: bs, h => .cons (h b List.mem_cons_self) (CoL.of_pairs fun c hc => h c (List.mem_cons_of_mem _ hc))
theorem sort_fin {a : Addr} {us : List V} {xs : List Dt} {Q : VK} (ht : Hotty M H) (hs : SqL K H a us ∨ SqT K H a us) (c : CoL K M H us xs) (hok : okSort xs = true) (k : ∀ v H' F, Mk K H M v (.l (sortD xs)) .t H' F → Q v H') : rSortD K [.ref a] H Q := by
  simp only [okSort, Bool.and_eq_true, List.all_eq_true, decide_eq_true_eq] at hok
  obtain ⟨⟨⟨o1, o2⟩, o3⟩, o4⟩ := hok
  obtain ⟨z1, z2, z3⟩ := c.zip
  have e : (us.zip xs).map encD = xs.map toP := by
    have : (us.zip xs).map encD = ((us.zip xs).map (·.2)).map toP := by rw [List.map_map]; rfl
    rw [this, z2]
  have es : ((us.zip xs).mergeSort (dataLe false encD)).map (·.2) = sortD xs := by
    have := List.map_mergeSort (f := fun (x : V × Dt) => x.2) (r := dataLe false encD) (s := leD) (l := us.zip xs) (fun a _ b _ => rfl)
    rw [this, z2]; rfl
  refine ⟨a, us.zip xs, rfl, by rw [z1]; exact hs, fun b hb => (z3 b hb).dp (nob_dep _ (by have := o3 b.2 (by rw [← z2]; exact List.mem_map_of_mem hb); omega)), by rw [e]; exact alikeL_ok o1, by rw [e]; exact sortable_ok o2, fun b hb => o3 b.2 (by rw [← z2]; exact List.mem_map_of_mem hb), ?_, fun p hp => ?_⟩
  · have : (us.zip xs).length = xs.length := by
      have := congrArg List.length z2
      simpa using this
    rw [this]; exact lim_size o4
  · have c2 : CoL K M H (((us.zip xs).mergeSort (dataLe false encD)).map (·.1)) (((us.zip xs).mergeSort (dataLe false encD)).map (·.2)) := CoL.of_pairs fun b hb => z3 b (List.mem_mergeSort.mp hb)
    rw [es] at c2
    exact k _ _ _ (mk_lst ht hp c2)
theorem pr_sorted : Pr K (rSortD K) fSorted := fun M H vs xs x m Q ht c hf k => by
  unfold fSorted at hf
  split at hf
  · split at hf
    · rename_i h
      cases hf
      obtain ⟨v, rfl, c1⟩ := c.one
      obtain ⟨a, us, rfl, h1, q1⟩ := c1.lst
      exact sort_fin ht (.inl (.inl (.inl h1))) q1 h k
    · cases hf
  · split at hf
    · rename_i h
      cases hf
      obtain ⟨v, rfl, c1⟩ := c.one
      obtain ⟨a, us, rfl, h1, q1⟩ := c1.tup
      exact sort_fin ht (.inr h1) q1 h k
    · cases hf
  · split at hf
    · rename_i h
      cases hf
      obtain ⟨v, rfl, c1⟩ := c.one
      obtain ⟨a, us, rfl, h1, q1⟩ := c1.frz
      exact sort_fin ht (.inl (h1.sq)) q1 h k
    · cases hf
  · cases hf
end
end Y
namespace Y
open PySem L2 PyProof.Rows
section
variable {K : PySem.W.Frag} {cl : Str → Addr} {W : WX} {io : Bool} {M M' M0 : Addr → Prop} {H H' H0 : Hp} {G G' G0 : Nat → List Addr} {r r' : Ev} {σ σ0 : L2.St}
def mCM (fn : Fn) (f : Ev → Ou Vl) (as : List Am) : Ev → Ou Vl := fun r => match f r with
  | .ok xm r1 => match evA as r1 with
    | .ok ys r2 => match look r2 ys with
      | some xs => match fn (xm :: cold xs) with
        | .rt (x, m) z => .ok (x, m) (if zfl (x, m) && zfl z then r2 else frz ys r2)
        | .ex c fs z => if flatF fs && zfl z then .ex c fs r2 else .no
        | .no => .no
      | none => .no
    | .ex c fs r2 => .ex c fs r2
    | .no => .no
  | .ex c fs r1 => .ex c fs r1
  | .no => .no
theorem look_ext {o : Option Vl} : ∀ {ys : List Ag} {r : Ev} {xs : List Dt}, look r ys = some xs → look (r ++ [o]) ys = some xs
  | [], _, _, h => h
  | .d x :: ys, r, xs, h => by
    simp only [look, Option.map_eq_some_iff] at h ⊢
    obtain ⟨zs, h1, h2⟩ := h
    exact ⟨zs, look_ext h1, h2⟩
  | .v i :: ys, r, xs, h => by
    simp only [look] at h ⊢
    cases hr : r[i]? with
    | none => rw [hr] at h; cases h
    | some z =>
      have hi := (List.getElem?_eq_some_iff.mp hr).1
      rw [List.getElem?_append_left hi, hr]
      rw [hr] at h
      cases z with
      | none => cases h
      | some xm =>
        obtain ⟨x, m⟩ := xm
        simp only [Option.map_eq_some_iff] at h ⊢
        obtain ⟨zs, h1, h2⟩ := h
        exact ⟨zs, look_ext h1, h2⟩
theorem frz_ext {o : Option Vl} : ∀ {ys : List Ag} {r : Ev} {xs : List Dt}, look r ys = some xs → frz ys (r ++ [o]) = frz ys r ++ [o]
  | [], _, _, h => rfl
  | .d x :: ys, r, xs, h => by
    simp only [look, Option.map_eq_some_iff] at h
    obtain ⟨zs, h1, h2⟩ := h
    exact frz_ext (ys := ys) h1
  | .v i :: ys, r, xs, h => by
    simp only [look] at h
    cases hr : r[i]? with
    | none => rw [hr] at h; cases h
    | some z =>
      have hi := (List.getElem?_eq_some_iff.mp hr).1
      rw [hr] at h
      cases z with
      | none => cases h
      | some xm =>
        obtain ⟨x, m⟩ := xm
        simp only [Option.map_eq_some_iff] at h
        obtain ⟨zs, h1, h2⟩ := h
        simp only [frz]
        rw [List.getElem?_append_left hi, hr]
        simp only
        rw [List.set_append_left _ _ hi]
        have h3 : ∀ {ys : List Ag} {zs : List Dt}, look r ys = some zs → ∃ zs', look (r.set i (some (x, .c))) ys = some zs' := by
          intro ys
          induction ys with
          | nil => intro zs _; exact ⟨[], rfl⟩
          | cons y ys ih =>
            intro zs h
            cases y with
            | d x =>
              simp only [look, Option.map_eq_some_iff] at h ⊢
              obtain ⟨ws, h1, h2⟩ := h
              obtain ⟨us, q⟩ := ih h1
              exact ⟨_, us, q, rfl⟩
            | v j =>
              simp only [look] at h ⊢
              by_cases q : i = j
              · subst q
                rw [List.getElem?_set_self hi]
                rw [hr] at h
                simp only [Option.map_eq_some_iff] at h ⊢
                obtain ⟨ws, h1, h2⟩ := h
                obtain ⟨us, q⟩ := ih h1
                exact ⟨_, us, q, rfl⟩
              · rw [List.getElem?_set_ne q]
                cases hj : r[j]? with
                | none => rw [hj] at h; cases h
                | some o =>
                  rw [hj] at h
                  cases o with
                  | none => cases h
                  | some xm =>
                    simp only [Option.map_eq_some_iff] at h ⊢
                    obtain ⟨ws, h1, h2⟩ := h
                    obtain ⟨us, q⟩ := ih h1
                    exact ⟨_, us, q, rfl⟩
        obtain ⟨zs', q⟩ := h3 h1
        exact frz_ext q
theorem ER.snoc {v : V} {x : Dt} {m : Md} {F : List Addr} (e : ER K r σ G M H) (rp : Rp K M H m v x F) (nd : F.Nodup) (k : ∀ b ∈ F, M b ∧ ∀ i, b ∉ G i) :
    ER K (r ++ [some (x, m)]) (σ ++ [some v]) (fun j => if j = r.length then F else G j) M H := by
  have h0 : ER K (r ++ [none]) (σ ++ [none]) G M H := e.pad 1
  have hl : r.length < (σ ++ [none]).length := by simp [e.len]
  have := h0.put (i := r.length) rp nd k hl
  have e1 : (r ++ [none]).set r.length (some (x, m)) = r ++ [some (x, m)] := by
    rw [List.set_append_right _ _ (Nat.le_refl _)]; simp
  have e2 : (σ ++ [(none : Option V)]).set r.length (some v) = σ ++ [some v] := by
    rw [e.len, List.set_append_right _ _ (Nat.le_refl _)]; simp
  rw [e1, e2] at this
  exact this
theorem ER.unsnoc {o : Option Vl} {u : Option V} (e : ER K (r ++ [o]) (σ ++ [u]) G M H) : ER K r σ (fun j => if j < r.length then G j else []) M H := by
  have hl : r.length = σ.length := by simpa using e.len
  refine ⟨hl, fun i x m h => ?_, fun i h => ?_, fun i => ?_, fun i j hne b hb => ?_, fun i b hb => ?_, e.hot, e.tab⟩
  · have hi := (List.getElem?_eq_some_iff.mp h).1
    obtain ⟨v, h1, h2⟩ := e.at_ i x m (by rw [List.getElem?_append_left hi]; exact h)
    exact ⟨v, by rwa [List.getElem?_append_left (by rw [← hl]; exact hi)] at h1, by simpa [hi] using h2⟩
  · by_cases hi : i < r.length
    · simp only [if_pos hi]
      exact e.emp i fun x m q => h x m (by rwa [List.getElem?_append_left hi] at q)
    · simp [hi]
  · by_cases hi : i < r.length
    · simpa [hi] using e.nd i
    · simp [hi]
  · by_cases hi : i < r.length
    · simp only [if_pos hi] at hb
      by_cases hj : j < r.length
      · simp only [if_pos hj]; exact e.dj i j hne b hb
      · simp [hj]
    · simp [hi] at hb
  · by_cases hi : i < r.length
    · simp only [if_pos hi] at hb; exact e.sub i b hb
    · simp [hi] at hb
theorem mCM_ok {n : Nat} {fn : Fn} {f : Ev → Ou Vl} {as : List Am} {Q : VK} (hn : as.length + 1 = n) (h : tI K cl W (mCM fn f as) σ H Q) : tOs K cl W (.e f :: as) σ H fun vs H1 => spY K cl true n fn vs H1 Q (WE W σ) := by
  obtain ⟨r, M, G, e, h⟩ := h
  show tI K cl W f σ H _
  refine ⟨r, M, G, e, ?_⟩
  simp only [mCM] at h
  cases hf : f r with
  | no => rw [hf] at h; exact h
  | ex c fs r1 => rw [hf] at h; exact h
  | ok xm r1 =>
    obtain ⟨x0, m0⟩ := xm
    rw [hf] at h
    simp only at h
    intro v0 H1 M1 G1 F1 p
    have v1 : Evo H M G H1 M1 G1 [] := ⟨p.ev.pres', p.ev.dom, p.ev.grow, p.ev.keep, p.ev.env, fun _ z => nomatch z⟩
    refine tOs_ok as p.er ?_
    cases ha : evA as r1 with
    | no => rw [ha] at h; exact h
    | ex c fs r2 => rw [ha] at h; exact fun d H2 M2 G2 q => h d H2 M2 G2 ⟨q.er, v1.trans e.hot q.ev, q.xd⟩
    | ok ys r2 =>
      rw [ha] at h
      simp only at h
      intro vs H2 M2 G2 e2 v2 a2
      cases hl : look r2 ys with
      | none => rw [hl] at h; exact h.elim
      | some xs =>
        rw [hl] at h
        simp only at h
        obtain ⟨rp2, hot2, _⟩ := p.rp.evo p.hot p.er v2
        have ee := e2.snoc rp2 p.nd hot2
        have hls : r2.length = σ.length := e2.len
        have va : ∀ {us : List V} {zs : List Ag}, AgL K M2 H2 σ us zs → AgL K M2 H2 (σ ++ [some v0]) us zs := by
          intro us zs q
          induction q with
          | nil => exact .nil
          | d c _ ih => exact .d c ih
          | v hv _ ih => exact .v (by rw [List.getElem?_append_left (List.getElem?_eq_some_iff.mp hv).1]; exact hv) ih
        have vv : Evo H M G H2 M2 (fun j => if j = r2.length then F1 else G2 j) [] := by
          have v3 := v1.trans e.hot v2
          exact ⟨v3.pres', v3.dom, v3.grow, v3.keep, fun i b hb => by
            by_cases q : i = r2.length
            · simp only [if_pos q] at hb; exact p.ev.res b hb
            · simp only [if_neg q] at hb; exact v3.env i b hb, fun _ z => nomatch z⟩
        have es : (r2 ++ [some (x0, m0)]).set r2.length none = r2 ++ [none] := by rw [List.set_append_right _ _ (Nat.le_refl _)]; simp
        have es2 : ∀ (q : Ev) (z : Vl), q.length = r2.length → (q ++ [none]).set r2.length (some z) = q ++ [some z] := fun q z hq => by rw [← hq, List.set_append_right _ _ (Nat.le_refl _)]; simp
        refine callI_core (i := r2.length) (x0 := x0) (m0 := m0) ee (by rw [← hn, List.length_cons, a2.len, evA_len as ha]) (by rw [hls, List.getElem?_append_right (Nat.le_refl _)]; simp) (va a2) (by rw [List.getElem?_append_right (Nat.le_refl _)]; simp) (by rw [es]; exact look_ext hl) ?_
        cases hfn : fn ((x0, m0) :: cold xs) with
        | no => rw [hfn] at h; exact h
        | rt xm z =>
          obtain ⟨x, m⟩ := xm
          rw [hfn] at h
          simp only at h ⊢
          intro v H3 M3 G3 F q
          rw [es, frz_ext hl] at q
          have q2 : PX K ((if (zfl (x, m) && zfl z) = true then r2 else frz ys r2) ++ [some z]) (σ ++ [some v0]) H2 M2 (fun j => if j = r2.length then F1 else G2 j) v x m H3 M3 G3 F := by
            by_cases hx : (zfl (x, m) && zfl z) = true
            · rw [if_pos hx] at q ⊢
              rwa [es2 _ _ rfl] at q
            · rw [if_neg hx] at q ⊢
              rwa [es2 _ _ (frz_len _ _)] at q
          have e5 := q2.er.unsnoc
          refine h v H3 M3 _ F ⟨e5, (vv.trans e.hot q2.ev).less fun i b hb => ⟨i, ?_⟩, q2.rp, q2.nd, fun b hb => ⟨(q2.hot b hb).1, fun i hi => ?_⟩⟩
          · by_cases y : i < (if (zfl (x, m) && zfl z) = true then r2 else frz ys r2).length
            · simp only [if_pos y] at hb; exact hb
            · rw [if_neg y] at hb; exact nomatch hb
          · by_cases y : i < (if (zfl (x, m) && zfl z) = true then r2 else frz ys r2).length
            · simp only [if_pos y] at hi; exact (q2.hot b hb).2 i hi
            · rw [if_neg y] at hi; exact nomatch hi
        | ex c fs z =>
          rw [hfn] at h
          simp only at h ⊢
          by_cases hx : (flatF fs && zfl z) = true
          · rw [if_pos hx] at h ⊢
            intro d H3 M3 G3 q
            rw [es, es2 _ _ rfl] at q
            refine h d H3 M3 _ ⟨q.er.unsnoc, (vv.trans e.hot q.ev).less fun i b hb => ⟨i, ?_⟩, q.xd⟩
            by_cases y : i < r2.length
            · simp only [if_pos y] at hb; exact hb
            · simp [if_neg y] at hb
          · rw [if_neg hx] at h
            exact h.elim
def pick {α : Type} (p : List Nat) (d : α) (xs : List α) : List α := p.map fun i => xs.getD i d
end
section
variable {X : Cx} {cl : Str → Addr} {W : WX} {K : PySem.W.Frag} {io : Bool}
theorem je_callM {k : Nat} {f : Addr} {fd : FuncData} {ps : List Str} {n : Nat} {fn : Fn} {x : Str} {p pos : Pos} {e : Expr} {es : List Expr} {g : Ev → Ou Vl} {as : List Am} (F : FnOk X.prog X.w X.K X.mg X.base (L2.CX X.prog X.w) k f fd ps (spY X.K cl true n fn)) (hr : Room k X.A)
    (hm : X.mg x = some (.ref f)) (hk : PySem.W.keepIn X.K (.ref f) = true) (hb : Binds X.K fd ps []) (ha : JA X cl W (e :: es) (.e g :: as)) (hn : as.length + 1 = n := by rfl) (hg : Gl X x := by rfl) (hdb : (x == ("__debug__" : Str)) = false := by decide)
    (he : starEach (e :: es) X.env = (false, eval e X.env) :: starEach es X.env := by rfl) (hpl : (backTo pos (starEach es X.env)).any (·.1) = false := by rfl) : JE X cl W (.Call (.Name x p) (e :: es) [] pos) (mCM fn g as) := fun tk =>
  (pe_callS F hr hg hm hk hb (fun σ => passAt tk σ) (ha.pa tk) hdb he hpl).yimp fun _ _ _ q => mCM_ok hn q
def mCK (fn : Fn) (p : List Nat) (as : List Am) : Ev → Ou Vl := mC (fun xs => fn (pick p (.n, .c) xs)) as
theorem js_par2 {i j : Nat} {x y : Str} {a b : Expr} {f g : Ev → Ou Vl} {px py pt pos : Pos} {kt k2 pt2} (hc : X.calm = true) (hN : X.N.Nodup) (hi : X.N[i]? = some x) (hj : X.N[j]? = some y) (hij : i ≠ j)
    (hx : X.env.scope.names.lookup x = some .local) (hy : X.env.scope.names.lookup y = some .local) (hio : io = true → 0 ∉ [i, j]) (ha : JE X cl W a f) (hb : JE X cl W b g) (hw : swappedStores [.Tuple [.Name x px, .Name y py] kt pt] (.Tuple [a, b] k2 pt2) X.env = pure (some [x, y]))
    (hs1 : starEach [a, b] X.env = (false, eval a X.env) :: starEach [b] X.env := by rfl) (hs2 : starEach [b] X.env = (false, eval b X.env) :: starEach [] X.env := by rfl)
    (hs : swapsWithSole [.Tuple [.Name x px, .Name y py] kt pt] (.Tuple [a, b] k2 pt2) pos.line X.env = pure false := by rfl) : JS X cl W io (.Assign [.Tuple [.Name x px, .Name y py] kt pt] (.Tuple [a, b] k2 pt2) pos) (sPar [i, j] [f, g]) := fun tk =>
  (ps_par hc hN hi hj hij hx hy ((ja_c (jo_e ha) (ja_c (jo_e hb) ja_n hs2) hs1).pa tk) hw hs).yimp fun D σ H q => by
    have := par_go (is := [i, j]) (fs := [f, g]) hio q
    have mono2 : ∀ {as : List Am} {H : Hp} {Q Q' : List V → Hp → Prop}, tOs X.K cl W as σ H Q → (∀ v H, Q v H → Q' v H) → tOs X.K cl W as σ H Q' := tOs_mono
    refine mono2 this fun vs H1 ⟨h1, h2, _⟩ => ?_
    match vs, h1 with
    | [v, w], _ => exact ⟨v, w, rfl, h2⟩
where tOs_mono {K : PySem.W.Frag} {cl : Str → Addr} {W : WX} {σ : L2.St} : ∀ {as : List Am} {H : Hp} {Q Q' : List V → Hp → Prop}, tOs K cl W as σ H Q → (∀ v H, Q v H → Q' v H) → tOs K cl W as σ H Q'
  | [], _, _, _, h, i => i _ _ h
  | .v j :: as, H, Q, Q', ⟨v, hv, h⟩, i => ⟨v, hv, tOs_mono (as := as) h fun vs H h => i _ _ h⟩
  | .e f :: as, H, Q, Q', h, i => by
    obtain ⟨r, M, G, e, h⟩ := h
    refine ⟨r, M, G, e, ?_⟩
    cases hf : f r with
    | no => rw [hf] at h; exact h
    | ex c fs r1 => rw [hf] at h; exact h
    | ok xm r1 =>
      obtain ⟨x, m⟩ := xm
      rw [hf] at h
      exact fun v H' M' G' F p => tOs_mono (as := as) (h v H' M' G' F p) fun vs H h => i _ _ h
end
end Y
namespace Y
open PySem L2 PyProof.Rows
theorem tup_once (l : Addr) (items : Array Value) (n : Nat) (dd : Option Addr) (sl : Array (Option Value)) (u : Tok) :
    Meets (Builtin.«tuple.__mul__» ⟨[.ref l, .int 1 u], []⟩) (fun _ R s => s.heap.get? l = some { cls := .type "tuple", dict := dd, data := .seq items n, slots := sl } ∧ R (.ok (.ret (Value.ref l))) s) :=
  .of_wp fun prog w A R s h => by
    obtain ⟨hp, g, d, tk, os⟩ := s
    obtain ⟨hl, h⟩ := h
    have f1 := AutoSeq1.idx_int
    have c1 : (items.isEmpty || (1 : Int) == 1) = true := by simp
    wp_walk using wpAny_loadPart' hl
    exact ⟨_, rfl, h⟩
theorem tup_none (l : Addr) (items : Array Value) (n : Nat) (dd : Option Addr) (sl : Array (Option Value)) (x : Int) (u : Tok) (c0 : (decide (x < -(2 ^ 63)) || decide (x ≥ 2 ^ 63)) = false) (c1 : (items.isEmpty || x == 1) = false) (c2 : (decide (x ≤ 0) || items.isEmpty) = true) :
    Meets (Builtin.«tuple.__mul__» ⟨[.ref l, .int x u], []⟩) (fun _ R s => s.heap.get? l = some { cls := .type "tuple", dict := dd, data := .seq items n, slots := sl } ∧
      R (.ok (.ret (Value.ref s.heap.objs.size))) { s with heap := s.heap.push { cls := Value.type "tuple", data := Data.seq #[] } }) :=
  .of_wp fun prog w A R s h => by
    obtain ⟨hp, g, d, tk, os⟩ := s
    obtain ⟨hl, h⟩ := h
    have f1 := AutoSeq1.idx_int
    wp_walk using wpAny_loadPart' hl
    repeat (first
      | (refine wpAny_ite_false (decide_eq_false (by rw [c0]; exact Bool.false_ne_true)) ?_; wp_walk using wpAny_loadPart' hl)
      | (refine wpAny_ite_false (decide_eq_false (by rw [c1]; exact Bool.false_ne_true)) ?_; wp_walk using wpAny_loadPart' hl)
      | (refine wpAny_ite_true (decide_eq_true c2) ?_; wp_walk using wpAny_loadPart' hl))
    exact ⟨_, rfl, h⟩
def rRep1 (K : PySem.W.Frag) : R2 := fun x y H Q => ∃ l xs, x = .ref l ∧ y = .int 1 ∧ SqT K H l xs ∧ Q (.ref l) H
def rRep0 (K : PySem.W.Frag) : R2 := fun x y H Q => ∃ l k xs, x = .ref l ∧ y = .int k ∧ SqT K H l xs ∧ xs ≠ [] ∧ k ≤ 0 ∧ -1000000 ≤ k ∧ ∀ p, H p = none → Q (.ref p) (upd H p (.tup []))
section
variable {X : Cx}
theorem op_rep1 : OpR X (binaryOp .Mult) (rRep1 X.K) := by
  intro pins s σ H x y v u Q I rx ry h
  obtain ⟨l, xs, rfl, rfl, hT, q⟩ := h
  cases rx
  obtain ⟨t, rfl⟩ := ry
  obtain ⟨its, r, ⟨⟨cls, dd, data, sl⟩, ho, hc, n, hd⟩, hs⟩ := I.tuple hT
  simp only at hc hd
  subst hc hd
  exact wpAny_binaryOp_repeat_ref (T := "tuple") (U := "int") (by decide) ⟨_, ho, rfl⟩ (fun s' => typeIs_int s' 1 t) noFill_tuple_mul F.fills_int_mul F.slot_int_rmul repeat_tuple F.slot_int_index.lookup
    (call_meets F.slot_int_rmul (typeIs_int s 1 t) F.entry_int_rmul (F.args_int_rmul_2 _ _) (int_rmul_tuple 1 t l its.toArray n dd sl)
      ⟨ho, rfl, ⟨_, ho, rfl⟩, call_meets F.slot_tuple_mul ⟨_, ho, rfl⟩ F.entry_tuple_mul (F.args_tuple_mul_2 _ _) (tup_once l its.toArray n dd sl t) ⟨ho, .ref l, H, I, rfl, q⟩⟩)
theorem op_rep0 : OpR X (binaryOp .Mult) (rRep0 X.K) := by
  intro pins s σ H x y v u Q I rx ry h
  obtain ⟨l, k, xs, rfl, rfl, hT, hne, h1, h2, q⟩ := h
  cases rx
  obtain ⟨t, rfl⟩ := ry
  obtain ⟨its, r, ⟨⟨cls, dd, data, sl⟩, ho, hc, n, hd⟩, hs⟩ := I.tuple hT
  simp only at hc hd
  subst hc hd
  have hle : its.length = xs.length := r.length.symm
  have hi : its.toArray.isEmpty = false := by
    cases its with
    | nil => exact absurd (List.eq_nil_of_length_eq_zero hle.symm) hne
    | cons a b => rfl
  have c0 : (decide (k < -(2 ^ 63)) || decide (k ≥ 2 ^ 63)) = false := by
    rw [Bool.or_eq_false_iff]
    exact ⟨decide_eq_false (by omega), decide_eq_false (by omega)⟩
  have c1 : (its.toArray.isEmpty || k == 1) = false := by
    rw [hi, Bool.false_or]
    exact beq_eq_false_iff_ne.mpr (by omega)
  have c2 : (decide (k ≤ 0) || its.toArray.isEmpty) = true := by
    rw [decide_eq_true h1, Bool.true_or]
  refine wpAny_binaryOp_repeat_ref (T := "tuple") (U := "int") (by decide) ⟨_, ho, rfl⟩ (fun s' => typeIs_int s' k t) noFill_tuple_mul F.fills_int_mul F.slot_int_rmul repeat_tuple F.slot_int_index.lookup
    (call_meets F.slot_int_rmul (typeIs_int s k t) F.entry_int_rmul (F.args_int_rmul_2 _ _) (int_rmul_tuple k t l its.toArray n dd sl)
      ⟨ho, rfl, ⟨_, ho, rfl⟩, call_meets F.slot_tuple_mul ⟨_, ho, rfl⟩ F.entry_tuple_mul (F.args_tuple_mul_2 _ _) (tup_none l its.toArray n dd sl k t c0 c1 c2) ⟨ho, ?_⟩⟩)
  refine ⟨.ref s.heap.objs.size, _, I.laid (t' := s.toks) (o := .tup []) (fun b ob q => Heap.get?_push_of_some _ q) (Nat.le_refl _) ?_, rfl, q _ (I.hok.fresh (Nat.le_refl _))⟩
  exact ⟨Nat.zero_le _, [], .nil, IsTup.new _ _⟩
end
end Y
namespace Y
open PySem L2 PyProof.Rows
section
variable {X : Cx} {cl : Str → Addr} {W : WX} {K : PySem.W.Frag} {io : Bool} {M M' : Addr → Prop} {H H' : Hp}
def tyN : Dt → String
  | .n => "NoneType" | .b _ => "bool" | .i _ => "int" | .s _ => "str" | .t _ => "tuple" | .l _ => "list" | .z _ => "list" | .m _ _ => "dict" | .o _ _ _ => "object" | .x _ _ _ => "exc" | .f _ => "function" | .k _ _ => "dict"
def isT (T : String) (x : Dt) : Bool := tyN x == T || (T == "int" && tyN x == "bool")
/-- no dict, no object -/
def isP : Dt → Bool
  | .m _ _ => false
  | .o _ _ _ => false
  | .x _ _ _ => false
  | .f _ => false
  | .k _ _ => false
  | _ => true
theorem Co.tyx {v : V} {x : Dt} (c : Co K M H v x) (hp : isP x = true) : TyX K H v (.type (tyN x)) := by
  cases c with
  | m _ _ _ => cases hp
  | o _ _ _ _ => cases hp
  | x0 _ _ => cases hp
  | f _ => cases hp
  | k _ _ _ _ _ _ => cases hp
  | x1 _ _ _ _ => cases hp
  | n => exact .base .non
  | b x => exact .base (.bl x)
  | i x => exact .base (.int x)
  | s x => exact .base (.str x)
  | t h q =>
    rcases h with h | ⟨o, its, n, h1, h2, _⟩
    · rcases h with h | ⟨o, h⟩
      · exact .base (.tup h)
      · exact .fTuple h
    · exact .kTuple h1 h2
  | l h _ q => exact .base (.lst h)
  | z h q =>
    rcases h with ⟨o, h⟩ | ⟨o, its, n, h1, h2, _⟩
    · exact .base (.frz h)
    · exact .kList h1 h2
theorem kitT {K : PySem.W.Frag} {T : String} (hT : T ∈ ["list", "tuple", "str", "bool", "int"]) {v : V} {x : Dt} (c : Co K M H v x) (hp : isP x = true) : PySem.W.kitOne K (.type (tyN x)) (.type T) = some (isT T x) := by
  have tab : ∀ ty ∈ ["NoneType", "bool", "int", "str", "tuple", "list"], ∀ T ∈ ["list", "tuple", "str", "bool", "int"], kitB ty T = some (ty == T || (T == "int" && ty == "bool")) := by decide +kernel
  refine kit_ty (tab (tyN x) ?_ T hT)
  cases c <;> first | (simp [tyN]; done) | cases hp
def fIsi (Ts : List String) : List Dt → Option Vl
  | [x] => if isP x then some (.b (Ts.any (isT · x)), .c) else none
  | _ => none
def rIsi1 (K : PySem.W.Frag) (T : String) : List V → Hp → VK → Prop
  | [x], H, Q => rIsi K [x, .ty T] H Q
  | _, _, _ => False
theorem pr_isi1 {T : String} (hT : T ∈ ["list", "tuple", "str", "bool", "int"]) : Pr K (rIsi1 K T) (fIsi [T]) := fun M H vs xs x m Q ht c hf k => by
  unfold fIsi at hf
  split at hf
  · rename_i d
    split at hf
    · rename_i hp
      cases hf
      obtain ⟨v, rfl, c1⟩ := c.one
      exact ⟨v, .ty T, _, _, _, rfl, .ty T, c1.tyx hp, kitT hT c1 hp, by simpa using k _ _ _ (mk_c ht (.b _))⟩
    · cases hf
  · cases hf
def rIsi2 (K : PySem.W.Frag) (T T' : String) : List V → Hp → VK → Prop
  | [x], H, Q => ∀ p, H p = none → rIsiT K [x, .ref p] (upd H p (.tup [.ty T, .ty T'])) Q
  | _, _, _ => False
theorem pr_isi2 {T T' : String} (hT : T ∈ ["list", "tuple", "str", "bool", "int"]) (hT' : T' ∈ ["list", "tuple", "str", "bool", "int"]) : Pr K (rIsi2 K T T') (fIsi [T, T']) := fun M H vs xs x m Q ht c hf k => by
  unfold fIsi at hf
  split at hf
  · rename_i d
    split at hf
    · rename_i hpp
      cases hf
      obtain ⟨v, rfl, c1⟩ := c.one
      intro p hp
      have c2 := c1.fm (fm_new0 (o := .tup [.ty T, .ty T']) ht hp)
      refine ⟨v, p, [.ty T, .ty T'], _, [.type T, .type T'], (isT T d || isT T' d), rfl, upd_same, .cons (.ty T) (.cons (.ty T') .nil), c2.tyx hpp, kitAny_cons (kitT hT c2 hpp) (fun e => ?_) (fun e => by simp [e]), ?_⟩
      · rw [e, Bool.false_or]
        exact kitAny_cons (kitT hT' c2 hpp) (fun e2 => by rw [e2]; exact kitAny_nil) (fun e2 => e2)
      · have mk : Mk K H M (.bl (isT T d || isT T' d)) (.b (isT T d || isT T' d)) .c (upd H p (.tup [.ty T, .ty T'])) [] := ⟨same_new hp, fun _ z => (nomatch z), List.nodup_nil, .b _, rfl⟩
        have := k _ _ _ (by simpa using mk)
        simpa using this
    · cases hf
  · cases hf
theorem je_isi1 {T : String} {Tn : Str} {e : Expr} {A : Am} {p p2 pos : Pos} (hT : T ∈ ["list", "tuple", "str", "bool", "int"]) (hg : Gl X "isinstance") (hm : X.mg "isinstance" = none) (hg2 : Gl X Tn) (hm2 : X.mg Tn = none) (hv2 : bootBuiltins Tn = some (.type T)) (he : JO X cl W e A) (hn : Tn ≠ "__name__" := by decide) (hd : (Tn == ("__debug__" : Str)) = false := by decide)
    (hs : starEach [e, .Name Tn p2] X.env = (false, eval e X.env) :: starEach [.Name Tn p2] X.env := by rfl) (hs2 : starEach [.Name Tn p2] X.env = (false, eval (.Name Tn p2) X.env) :: starEach [] X.env := by rfl) (hpl : (backTo pos (starEach [.Name Tn p2] X.env)).any (·.1) = false := by rfl) :
    JE X cl W (.Call (.Name "isinstance" p) [e, .Name Tn p2] [] pos) (mP (fIsi [T]) [A]) := fun tk =>
  (pe_callB call_isi hg hm (by rfl) (pa_cons (he.pe tk) (pa_cons (pe_bltn hg2 hm2 hv2 (show RelV (.ty T) (.type T) from rfl) hn hd) pa_nil hs2) hs) (by decide) (by decide) hs hpl).yimp fun σ H Q q => by
    have := mP_ok (pr_isi1 hT) q
    cases A <;> exact this
theorem je_isi2 {T T' : String} {Tn Tn' : Str} {e : Expr} {A : Am} {k : Nat} {p p2 p3 tp pos : Pos} (hT : T ∈ ["list", "tuple", "str", "bool", "int"]) (hT' : T' ∈ ["list", "tuple", "str", "bool", "int"]) (hg : Gl X "isinstance") (hm : X.mg "isinstance" = none) (hg2 : Gl X Tn) (hm2 : X.mg Tn = none) (hv2 : bootBuiltins Tn = some (.type T)) (hg3 : Gl X Tn') (hm3 : X.mg Tn' = none) (hv3 : bootBuiltins Tn' = some (.type T')) (he : JO X cl W e A)
    (hn : Tn ≠ "__name__" := by decide) (hd : (Tn == ("__debug__" : Str)) = false := by decide) (hn' : Tn' ≠ "__name__" := by decide) (hd' : (Tn' == ("__debug__" : Str)) = false := by decide)
    (hs : starEach [e, .Tuple [.Name Tn p2, .Name Tn' p3] k tp] X.env = (false, eval e X.env) :: starEach [.Tuple [.Name Tn p2, .Name Tn' p3] k tp] X.env := by rfl) (hs2 : starEach [.Tuple [.Name Tn p2, .Name Tn' p3] k tp] X.env = (false, eval (.Tuple [.Name Tn p2, .Name Tn' p3] k tp) X.env) :: starEach [] X.env := by rfl)
    (hpl : (backTo pos (starEach [.Tuple [.Name Tn p2, .Name Tn' p3] k tp] X.env)).any (·.1) = false := by rfl) (hs3 : starEach [.Name Tn p2, .Name Tn' p3] X.env = (false, eval (.Name Tn p2) X.env) :: starEach [.Name Tn' p3] X.env := by rfl) (hs4 : starEach [.Name Tn' p3] X.env = (false, eval (.Name Tn' p3) X.env) :: starEach [] X.env := by rfl) :
    JE X cl W (.Call (.Name "isinstance" p) [e, .Tuple [.Name Tn p2, .Name Tn' p3] k tp] [] pos) (mP (fIsi [T, T']) [A]) := fun tk =>
  (pe_callB call_isiT hg hm (by rfl) (pa_cons (he.pe tk) (pa_cons (pe_tup (pa_cons (pe_bltn hg2 hm2 hv2 (show RelV (.ty T) (.type T) from rfl) hn hd) (pa_cons (pe_bltn hg3 hm3 hv3 (show RelV (.ty T') (.type T') from rfl) hn' hd') pa_nil hs4) hs3)) pa_nil hs2) hs) (by decide) (by decide) hs hpl).yimp fun σ H Q q => by
    have := mP_ok (pr_isi2 hT hT') q
    have mono : ∀ {Q Q' : V → Hp → Prop}, tO X.K cl W A σ H Q → (∀ v H, Q v H → Q' v H) → tO X.K cl W A σ H Q' := fun {Q Q'} h i => js_par2.tOs_mono (as := [A]) (Q := fun vs H => match vs with | [v] => Q v H | _ => True) (Q' := fun vs H => match vs with | [v] => Q' v H | _ => True) h fun vs H h => by
      match vs, h with
      | [v], h => exact i v H h
      | [], _ => trivial
      | _ :: _ :: _, _ => trivial
    exact mono this fun v H1 h => ⟨by show 2 ≤ sizeLine; decide, h⟩
def inA (neg : Bool) (d : PyData) (ds : List PyData) : Bool := if neg then !(ds.any fun z => PyData.eqv z d) else ds.any fun z => PyData.eqv z d
def rInA (K : PySem.W.Frag) (neg : Bool) : R2 := fun x y H Q => ∃ d ds, Dp K H x d ∧ (Dp K H y (.list ds) ∨ Dp K H y (.tuple ds)) ∧ SeqAt.shaped d = true ∧ SeqAt.shaped (.list ds) = true ∧ SeqAt.shaped (.tuple ds) = true ∧ Q (.bl (inA neg d ds)) H
theorem or_in (hu : X.A.units + 65 < cLine) : OpR X (compareOp .In) (rInA X.K false) := by
  intro pins s σ H x y v u Q I rx ry h
  obtain ⟨d, ds, hd, he, sd, se, st, q⟩ := h
  obtain ⟨as, r1⟩ := Dp.reads I d x v hd rx
  rcases he with he | he
  · obtain ⟨bs, r2⟩ := Dp.reads I (.list ds) y u he ry
    exact SeqAt.in_list_reads r2 r1 (SeqAt.canLay_of_shaped se) (SeqAt.canLay_of_shaped sd) (room_in_shaped sd hu) ⟨.bl _, H, I, rfl, q⟩
  · obtain ⟨bs, r2⟩ := Dp.reads I (.tuple ds) y u he ry
    exact SeqAt.in_tuple_reads r2 r1 (SeqAt.canLay_of_shaped st) (SeqAt.canLay_of_shaped sd) (room_in_shaped sd hu) ⟨.bl _, H, I, rfl, q⟩
theorem or_nin (hu : X.A.units + 65 < cLine) : OpR X (compareOp .NotIn) (rInA X.K true) := by
  intro pins s σ H x y v u Q I rx ry h
  obtain ⟨d, ds, hd, he, sd, se, st, q⟩ := h
  obtain ⟨as, r1⟩ := Dp.reads I d x v hd rx
  rcases he with he | he
  · obtain ⟨bs, r2⟩ := Dp.reads I (.list ds) y u he ry
    exact SeqAt.notIn_list_reads r2 r1 (SeqAt.canLay_of_shaped se) (SeqAt.canLay_of_shaped sd) (room_in_shaped sd hu) ⟨.bl _, H, I, rfl, q⟩
  · obtain ⟨bs, r2⟩ := Dp.reads I (.tuple ds) y u he ry
    exact SeqAt.notIn_tuple_reads r2 r1 (SeqAt.canLay_of_shaped st) (SeqAt.canLay_of_shaped sd) (room_in_shaped sd hu) ⟨.bl _, H, I, rfl, q⟩
def inL (neg : Bool) (x : Dt) (ys : List Dt) : Bool := if neg then !(ys.any fun z => eqD z x) else ys.any fun z => eqD z x
def fInA (neg : Bool) : List Dt → Option Vl
  | [x, .l ys] => if shp x && shp (.l ys) && shp (.t ys) then some (.b (inL neg x ys), .c) else none
  | [x, .t ys] => if shp x && shp (.l ys) && shp (.t ys) then some (.b (inL neg x ys), .c) else none
  | [x, .z ys] => if shp x && shp (.l ys) && shp (.t ys) then some (.b (inL neg x ys), .c) else none
  | _ => none
theorem inA_eq {neg : Bool} {x : Dt} {ys : List Dt} : inA neg (toP x) (toPL ys) = inL neg x ys := by
  unfold inA inL
  rw [toPL_map, List.any_map]; rfl
theorem pr_in {neg : Bool} : Pr K (ap2 (rInA K neg)) (fInA neg) := fun M H vs xs x m Q ht c hf k => by
  unfold fInA at hf
  split at hf
  · split at hf
    · rename_i h
      cases hf
      simp only [Bool.and_eq_true] at h
      obtain ⟨v, w, rfl, c1, c2⟩ := c.two
      exact ⟨_, _, c1.dp (nob_shp h.1.1), .inl (c2.dp (nob_shp h.1.2)), h.1.1, h.1.2, h.2, by rw [inA_eq]; exact k _ _ _ (mk_c ht (.b _))⟩
    · cases hf
  · split at hf
    · rename_i h
      cases hf
      simp only [Bool.and_eq_true] at h
      obtain ⟨v, w, rfl, c1, c2⟩ := c.two
      exact ⟨_, _, c1.dp (nob_shp h.1.1), .inr (c2.dp (nob_shp h.2)), h.1.1, h.1.2, h.2, by rw [inA_eq]; exact k _ _ _ (mk_c ht (.b _))⟩
    · cases hf
  · split at hf
    · rename_i h
      cases hf
      simp only [Bool.and_eq_true] at h
      obtain ⟨v, w, rfl, c1, c2⟩ := c.two
      exact ⟨_, _, c1.dp (nob_shp h.1.1), .inl (c2.dp (nob_shp h.1.2)), h.1.1, h.1.2, h.2, by rw [inA_eq]; exact k _ _ _ (mk_c ht (.b _))⟩
    · cases hf
  · cases hf
def fRepT : List Dt → Option Vl
  | [.t xs, .i k] => if xs ≠ [] ∧ -1000000 ≤ k ∧ k ≤ 1000 ∧ xs.length ≤ 1000 then some (.t (List.replicate k.toNat xs).flatten, .c) else none
  | _ => none
def rRepN (K : PySem.W.Frag) : R2 := fun x y H Q => rRep1 K x y H Q ∨ (rRep0 K x y H Q ∨ rRepT K x y H Q)
theorem pr_repT : Pr K (ap2 (rRepN K)) fRepT := fun M H vs xs x m Q ht c hf k => by
  unfold fRepT at hf
  split at hf
  · rename_i ys n
    split at hf
    · rename_i h
      cases hf
      obtain ⟨v, w, rfl, c1, c2⟩ := c.two
      have c0 := c1
      obtain ⟨a, us, rfl, h1, q1⟩ := c1.tup
      have hw := c2.int
      have hne : us ≠ [] := fun z => h.1 (by subst z; exact q1.nilD)
      subst hw
      by_cases e1 : n = 1
      · subst e1
        have e : (List.replicate (1 : Int).toNat ys).flatten = ys := by simp
        rw [e] at k
        exact .inl ⟨a, us, rfl, rfl, h1, k _ _ _ (mk_c ht c0)⟩
      · by_cases e0 : n ≤ 0
        · have e : (List.replicate n.toNat ys).flatten = [] := by
            have : n.toNat = 0 := by omega
            simp [this]
          rw [e] at k
          exact .inr (.inl ⟨a, n, us, rfl, rfl, h1, hne, e0, h.2.1, fun p hp => k _ _ _ (mk_tup ht hp .nil)⟩)
        · exact .inr (.inr ⟨a, n, us, rfl, rfl, h1, hne, by omega, h.2.2.1, by rw [q1.len]; exact h.2.2.2, fun p hp => k _ _ _ (mk_tup ht hp (q1.rep _))⟩)
    · cases hf
  · cases hf
noncomputable def fMul : List Dt → Option Vl := fun xs => (fMulI xs).or ((fRepL xs).or (fRepT xs))
def rMulA (K : PySem.W.Frag) : R2 := fun x y H Q => rI CMul (fun i j => .int (i * j)) x y H Q ∨ (rRep x y H Q ∨ rRepN K x y H Q)
theorem or_mul : OpR X (binaryOp .Mult) (rMulA X.K) := op_mul.or (op_rep.or (op_rep1.or (op_rep0.or op_repT)))
theorem pr_mul : Pr K (ap2 (rMulA K)) fMul := (pr_iC (fun a b h => cMul_ok h) fun a b M H => .i _).or2 (pr_repL.or2 pr_repT)
def fRev : List Dt → Option Vl
  | [.l xs] => some (.l xs.reverse, .t)
  | [.z xs] => some (.l xs.reverse, .t)
  | _ => none
def mCh (f f' : List Dt → Option Vl) (A B C : Am) : Ev → Ou Vl := fun r => match evA [A, B] r with
  | .ok ys r1 => match look r1 ys with
    | some [x, .i b] => match f [x, .i b] with
      | some (.b true, _) => match evA [C] r1 with
        | .ok zs r2 => match look r2 zs with
          | some [z] => match f' [.i b, z] with
            | some (.b k, _) => .ok (.b k, .c) r2
            | _ => .no
          | _ => .no
        | .ex c fs r2 => .ex c fs r2
        | .no => .no
      | some (.b false, _) => .ok (.b false, .c) r1
      | _ => .no
    | _ => .no
  | .ex c fs r1 => .ex c fs r1
  | .no => .no
theorem chain_go {rr rr' : R2} {A B C : Am} {f f' : List Dt → Option Vl} {σ : L2.St} {H : Hp} {Q : VK} (hp : Pr X.K (ap2 rr) f) (hp' : Pr X.K (ap2 rr') f') (h : tI X.K cl W (mCh f f' A B C) σ H Q) : tChain rr rr' (tO X.K cl W A) (tO X.K cl W B) (tO X.K cl W C) σ H Q := by
    obtain ⟨r, M, G, e, h⟩ := h
    show tOs X.K cl W [A, B] σ H fun vs H1 => match vs with
      | [x, y] => rr x y H1 fun z H3 => ∃ k, z = .bl k ∧ (if k = true then tO X.K cl W C σ H3 fun w' H4 => rr' y w' H4 Q else Q (.bl false) H3)
      | _ => False
    refine tOs_ok [A, B] e ?_
    simp only [mCh] at h
    cases h1 : evA [A, B] r with
    | no => rw [h1] at h; exact h
    | ex c fs r1 => rw [h1] at h; exact h
    | ok ys r1 =>
      rw [h1] at h
      intro vs H1 M1 G1 e1 v1 a1
      cases hl : look r1 ys with
      | none => simp only [hl] at h
      | some xs =>
        simp only [hl] at h
        have hxs : ∃ x b, xs = [x, .i b] := by
          match xs, h with
          | [x, .i b], _ => exact ⟨x, b, rfl⟩
          | [], h => exact (show False from h).elim
          | [_], h => exact (show False from h).elim
          | _ :: y :: _ :: _, h => cases y <;> exact (show False from h).elim
          | [_, .n], h => exact (show False from h).elim
          | [_, .b _], h => exact (show False from h).elim
          | [_, .s _], h => exact (show False from h).elim
          | [_, .t _], h => exact (show False from h).elim
          | [_, .l _], h => exact (show False from h).elim
          | [_, .z _], h => exact (show False from h).elim
          | [_, .m _ _], h => exact (show False from h).elim
          | [_, .o _ _ _], h => exact (show False from h).elim
          | [_, .x _ _ _], h => exact (show False from h).elim
          | [_, .f _], h => exact (show False from h).elim
          | [_, .k _ _], h => exact (show False from h).elim
        · obtain ⟨x, b, rfl⟩ := hxs
          simp only at h
          have cc : CoL X.K (fun b => M1 b ∧ b ∉ owns G1 ys) H1 vs [x, .i b] := look_cold e1 (fun b z => z.1) (fun b hb z => z.2 hb) a1 hl
          have ht1 : Hotty (fun b => M1 b ∧ b ∉ owns G1 ys) H1 := fun b z => e1.hot b z.1
          have cc0 := cc
          obtain ⟨v, w, rfl, c1, c2⟩ := cc.two
          have ew := c2.int
          subst ew
          have nx : ∀ {k : Bool} {mk : Md}, f [x, .i b] = some (.b k, mk) → (∀ H2 M2 G2, ER X.K r1 σ G2 M2 H2 → Evo H M G H2 M2 G2 [] → (if k = true then tO X.K cl W C σ H2 fun w' H4 => rr' (.int b) w' H4 Q else Q (.bl false) H2)) → rr v (.int b) H1 fun z H3 => ∃ k, z = .bl k ∧ (if k = true then tO X.K cl W C σ H3 fun w' H4 => rr' (.int b) w' H4 Q else Q (.bl false) H3) := fun {k mk} hf q => by
            refine hp _ H1 [v, .int b] _ _ _ _ ht1 cc0 hf fun z H2 F p => ?_
            have p2 := p.px e1 v1 e.hot (by simp [Dt.flat])
            obtain ⟨M3, e3, v3, c3⟩ := p2.giveUp e.hot
            exact ⟨k, c3.bl, q H2 M3 _ e3 v3⟩
          have hff : ∃ k mk, f [x, .i b] = some (.b k, mk) := by
            match hf : f [x, .i b], h with
            | some (.b k, mk), _ => exact ⟨k, mk, rfl⟩
            | none, h => exact (show False from h).elim
            | some (.n, _), h => exact (show False from h).elim
            | some (.i _, _), h => exact (show False from h).elim
            | some (.s _, _), h => exact (show False from h).elim
            | some (.t _, _), h => exact (show False from h).elim
            | some (.l _, _), h => exact (show False from h).elim
            | some (.z _, _), h => exact (show False from h).elim
            | some (.m _ _, _), h => exact (show False from h).elim
            | some (.o _ _ _, _), h => exact (show False from h).elim
            | some (.x _ _ _, _), h => exact (show False from h).elim
            | some (.f _, _), h => exact (show False from h).elim
            | some (.k _ _, _), h => exact (show False from h).elim
          obtain ⟨k, mk, hf⟩ := hff
          rw [hf] at h
          cases k with
          | true =>
            refine nx hf fun H2 M2 G2 e2 v2 => ?_
            rw [if_pos rfl]
            show tOs X.K cl W [C] σ H2 fun vs H3 => match vs with
              | [z] => rr' (.int b) z H3 Q
              | _ => False
            refine tOs_ok [C] e2 ?_
            cases h2 : evA [C] r1 with
            | no => rw [h2] at h; exact h
            | ex c fs r2 => rw [h2] at h; exact fun d H' M' G' p => h d H' M' G' ⟨p.er, v2.trans e.hot p.ev, p.xd⟩
            | ok zs r2 =>
              rw [h2] at h
              intro us H3 M3 G3 e3 v3 a3
              cases hl2 : look r2 zs with
              | none => simp only [hl2] at h
              | some xs2 =>
                simp only [hl2] at h
                have hzz : ∃ z, xs2 = [z] := by
                  match xs2, h with
                  | [z], _ => exact ⟨z, rfl⟩
                  | [], h => exact (show False from h).elim
                  | _ :: _ :: _, h => exact (show False from h).elim
                · obtain ⟨z, rfl⟩ := hzz
                  simp only at h
                  have cc3 : CoL X.K (fun b => M3 b ∧ b ∉ owns G3 zs) H3 us [z] := look_cold e3 (fun b z => z.1) (fun b hb z => z.2 hb) a3 hl2
                  have ht3 : Hotty (fun b => M3 b ∧ b ∉ owns G3 zs) H3 := fun b z => e3.hot b z.1
                  obtain ⟨u, rfl, c5⟩ := cc3.one
                  have hff2 : ∃ k mk, f' [.i b, z] = some (.b k, mk) := by
                    match hf : f' [.i b, z], h with
                    | some (.b k, mk), _ => exact ⟨k, mk, rfl⟩
                    | none, h => exact (show False from h).elim
                    | some (.n, _), h => exact (show False from h).elim
                    | some (.i _, _), h => exact (show False from h).elim
                    | some (.s _, _), h => exact (show False from h).elim
                    | some (.t _, _), h => exact (show False from h).elim
                    | some (.l _, _), h => exact (show False from h).elim
                    | some (.z _, _), h => exact (show False from h).elim
                    | some (.m _ _, _), h => exact (show False from h).elim
                    | some (.o _ _ _, _), h => exact (show False from h).elim
                    | some (.x _ _ _, _), h => exact (show False from h).elim
                    | some (.f _, _), h => exact (show False from h).elim
                    | some (.k _ _, _), h => exact (show False from h).elim
                  · obtain ⟨k, mk2, hf2⟩ := hff2
                    rw [hf2] at h
                    refine hp' _ H3 [.int b, u] _ _ _ _ ht3 (.cons (.i b) (.cons c5 .nil)) hf2 fun z H4 F p => ?_
                    have p2 := p.px e3 (v2.trans e.hot v3) e.hot (by simp [Dt.flat])
                    obtain ⟨M5, e5, v5, c6⟩ := p2.giveUp e.hot
                    have := c6.bl
                    subst this
                    exact h _ H4 M5 _ [] ⟨e5, v5, ⟨.b k, rfl⟩, List.nodup_nil, fun _ z => nomatch z⟩
          | false =>
            refine nx hf fun H2 M2 G2 e2 v2 => ?_
            rw [if_neg Bool.false_ne_true]
            exact h _ H2 M2 G2 [] ⟨e2, v2, ⟨.b _, rfl⟩, List.nodup_nil, fun _ z => nomatch z⟩
theorem je_chain {op op' : CmpOp} {rr rr' : R2} {a b c : Expr} {A B C : Am} {f f' : List Dt → Option Vl} {pos : Pos} (ho : OpR X (compareOp op) rr) (ho' : OpR X (compareOp op') rr') (hp : Pr X.K (ap2 rr) f) (hp' : Pr X.K (ap2 rr') f') (ha : JO X cl W a A) (hb : JO X cl W b B) (hc : JO X cl W c C)
    (hm : lastMarks [op, op'] [b, c] = false := by with_unfolding_all rfl) : JE X cl W (.Compare a [op, op'] [b, c] pos) (mCh f f' A B C) := fun tk => (pe_chain ho ho' (ha.pe tk) (hb.pe tk) (hc.pe tk) hm).yimp fun _ _ _ q => chain_go hp hp' q
theorem jt_chain {op op' : CmpOp} {rr rr' : R2} {a b c : Expr} {A B C : Am} {f f' : List Dt → Option Vl} {pos : Pos} (ho : OpR X (compareOp op) rr) (ho' : OpR X (compareOp op') rr') (hp : Pr X.K (ap2 rr) f) (hp' : Pr X.K (ap2 rr') f') (ha : JO X cl W a A) (hb : JO X cl W b B) (hc : JO X cl W c C)
    (hm : lastMarks [op, op'] [b, c] = false := by with_unfolding_all rfl) : JT X cl W (.Compare a [op, op'] [b, c] pos) (mTe (mCh f f' A B C)) := fun tk => (pt_chain ho ho' (ha.pe tk) (hb.pe tk) (hc.pe tk) hm).yimp fun _ _ _ q => chain_go hp hp' (tI_te q)
end
end Y
namespace Y
open PySem L2 PyProof.Rows
section
variable {X : Cx} {cl : Str → Addr} {W : WX} {K : PySem.W.Frag} {io : Bool} {M M' : Addr → Prop} {H H' : Hp}
def ipC (C : Int → Int → Prop) (f : Int → Int → Int) : TIp := fun x y H Q => ∃ i j, x = .int i ∧ y = .int j ∧ C i j ∧ Q (.int (f i j)) H
theorem ip_addC : PIp X .Add (ipC (fun _ _ => True) fun i j => i + j) := fun pins s σ H x y v u Q I r1 r2 ⟨i, j, h1, h2, _, q⟩ => ip_add pins s σ H x y v u Q I r1 r2 ⟨i, j, h1, h2, q⟩
theorem ip_subC : PIp X .Sub (ipC (fun _ _ => True) fun i j => i - j) := fun pins s σ H x y v u Q I r1 r2 ⟨i, j, h1, h2, _, q⟩ => ip_sub pins s σ H x y v u Q I r1 r2 ⟨i, j, h1, h2, q⟩
theorem ip_mulC : PIp X .Mult (ipC CMul fun i j => i * j) := by
  intro pins s σ H x y v u Q I r1 r2 h
  obtain ⟨i, j, e1, e2, hc, q⟩ := h
  subst e1; subst e2
  obtain ⟨t, rfl⟩ := r1
  obtain ⟨t', rfl⟩ := r2
  exact imul_int ⟨.int _, H, I.tok _, ⟨_, rfl⟩, q⟩ hc.ok
/-- x op= e, numbers -/
def cYes : Int → Int → Bool := fun _ _ => true
def sAug (i : Nat) (C : Int → Int → Bool) (g : Int → Int → Int) (f : Ev → Ou Vl) : Ev → So := fun r => match r[i]? with
  | some (some (.i a, _)) => match f r with
    | .ok (.i b, _) r1 => if C a b then .nx (r1.set i (some (.i (g a b), .c))) else .no
    | .ex c fs r1 => .ex c fs r1
    | _ => .no
  | _ => .no
theorem js_aug {x : Str} {e : Expr} {f : Ev → Ou Vl} {op : Operator} {C : Int → Int → Prop} {C' : Int → Int → Bool} {g : Int → Int → Int} {pos pos' : Pos} (i : Nat) (ho : PIp X op (ipC C g)) (hC : ∀ a b, C' a b = true → C a b) (hN : X.N.Nodup) (hi : X.N[i]? = some x) (hx : Loc X.env.scope x) (hio : io = true → i ≠ 0) (he : JE X cl W e f)
    (hf : X.fn x = true ∨ X.env.scope.names.lookup x = some .local := by first | exact .inl rfl | exact .inr rfl | assumption) : JS X cl W io (.AugAssign (.Name x pos') op e pos) (sAug i C' g f) := fun tk =>
  (ps_aug hN hi hx (he tk) ho hf).yimp fun D σ H ⟨r, M, G, e, h⟩ => by
    simp only [sAug] at h
    split at h
    · rename_i a m hr
      obtain ⟨v, hv, rp⟩ := e.at_ i _ m hr
      have hva : v = .int a := (rp.cold (M' := fun _ => False) e.hot (fun _ _ z => z) (fun _ z => z.elim)).int
      subst hva
      refine ⟨_, hv, r, M, G, e, ?_⟩
      cases hf : f r with
      | no => rw [hf] at h; exact h
      | ex c fs r1 => rw [hf] at h; exact fun d H' M' G' p => h d σ H' M' G' ⟨p, fun _ => rfl⟩
      | ok ym r1 =>
        obtain ⟨y, my⟩ := ym
        rw [hf] at h
        intro w H1 M1 G1 F p
        obtain ⟨M2, e2, v2, c2⟩ := p.giveUp e.hot
        have hy : ∃ b, y = .i b := by
          match y, h with
          | .i b, _ => exact ⟨b, rfl⟩
          | .n, h => exact (show False from h).elim
          | .b _, h => exact (show False from h).elim
          | .s _, h => exact (show False from h).elim
          | .t _, h => exact (show False from h).elim
          | .l _, h => exact (show False from h).elim
          | .z _, h => exact (show False from h).elim
          | .m _ _, h => exact (show False from h).elim
          | .o _ _ _, h => exact (show False from h).elim
          | .x _ _ _, h => exact (show False from h).elim
          | .f _, h => exact (show False from h).elim
          | .k _ _, h => exact (show False from h).elim
        obtain ⟨b, rfl⟩ := hy
        simp only at h
        split at h
        · rename_i hc
          refine ⟨a, b, rfl, c2.int, hC a b hc, ?_⟩
          have hil : i < σ.length := (List.getElem?_eq_some_iff.mp hv).1
          have e3 := e2.put (i := i) (v := .int (g a b)) (x := .i (g a b)) (m := .c) (F := []) ⟨.i _, rfl⟩ List.nodup_nil (fun _ z => nomatch z) hil
          exact h _ H1 M2 _ ⟨e3, v2.less fun j b hb => ⟨j, by
            by_cases q : j = i
            · simp [q] at hb
            · simpa [q] using hb⟩, fun z => List.getElem?_set_ne (hio z)⟩
        · exact h.elim
    · exact h.elim
end
section
variable {P : Program} {w : World} {K : PySem.W.Frag} {mg : Str → Option Value} {base : Heap} {cl : Str → Addr} {io : Bool}
/-- nothing is promised below the last level -/
def fnNo : Fn := fun _ => .no
theorem fn_no {x qual : Str} {st : Stmt} {f : Addr} {fd : FuncData} {N ps : List Str} {k n : Nat} (F : Fun K x qual st f fd) (S : FnScope N ps (defScope st)) (hn : ps.length = n := by rfl) :
    FnOk P w K mg base (L2.CX P w) (k + 1) f fd ps (spY K cl io n fnNo) := by
  subst hn
  exact fn_okX F S (fun vs H Q E h => h.1) fun cdv A outer s H vs Q E hr ⟨_, _, _, _, _, _, h⟩ => h.elim
end
end Y
namespace Y
open PySem L2 PyProof.Rows
theorem cx_never {P : Program} {w : World} {H : Hp} {s s' : Shared} {e : Value} (h : L2.CX P w [] H s (fun _ _ _ => False) e s') : False := by
  obtain ⟨_, _, _, _, _, _, _, _, _, _, _, _, z⟩ := h
  exact z
theorem u65 {A : Around} {k : Nat} (hr : Room k A) : A.units + 65 < cLine := by have := hr.un; omega
end Y
namespace Y
open PySem L2 PyProof.Rows
section
variable {K : PySem.W.Frag} {cl : Str → Addr} {W : WX} {io : Bool} {M M' M0 : Addr → Prop} {H H' H0 : Hp} {G G' G0 : Nat → List Addr} {r r' : Ev} {σ σ0 : L2.St} {D : Ends}
def getP : Dt → List Int → Option Dt
  | x, [] => some x
  | .l xs, k :: ks => (atI xs k).bind fun y => getP y ks
  | _, _ :: _ => none
/-- w, y stand at that path -/
inductive At (H : Hp) : V → Dt → List Int → V → Dt → Prop
  | nil {v : V} {x : Dt} : At H v x [] v x
  | cons {a : Addr} {us : List V} {xs : List Dt} {k : Int} {ks : List Int} {v' w : V} {x' y : Dt} : H a = some (.lst us) → atI us k = some v' → atI xs k = some x' → At H v' x' ks w y → At H (.ref a) (.l xs) (k :: ks) w y
theorem At.snoc {v : V} {x : Dt} {ks : List Int} {a : Addr} {us : List V} {xs : List Dt} {k : Int} {w : V} {y : Dt} (h : At H v x ks (.ref a) (.l xs)) (h1 : H a = some (.lst us)) (h2 : atI us k = some w) (h3 : atI xs k = some y) : At H v x (ks ++ [k]) w y := by
  generalize hv : V.ref a = va at h
  generalize hx : Dt.l xs = xa at h
  induction h with
  | nil => subst hv; subst hx; exact .cons h1 h2 h3 .nil
  | cons q1 q2 q3 _ ih => exact .cons q1 q2 q3 (ih hv hx)
theorem atI_ho {us : List V} {xs : List Dt} {F : List Addr} {k : Int} {x : Dt} (h : HoL K H us xs F) (e : atI xs k = some x) : ∃ v F', atI us k = some v ∧ Ho K H v x F' ∧ ∀ b ∈ F', b ∈ F := by
  have go : ∀ {us : List V} {xs : List Dt} {F : List Addr} {j : Nat}, HoL K H us xs F → xs[j]? = some x → ∃ v F', us[j]? = some v ∧ Ho K H v x F' ∧ ∀ b ∈ F', b ∈ F := by
    intro us
    induction us with
    | nil => intro xs F j h e; cases h; simp at e
    | cons u us ih =>
      intro xs F j h e
      cases h with
      | cons h1 h2 =>
        cases j with
        | zero => simp at e; subst e; exact ⟨u, _, rfl, h1, fun b hb => List.mem_append_left _ hb⟩
        | succ j =>
          obtain ⟨v, F', q1, q2, q3⟩ := ih h2 (j := j) (by simpa using e)
          exact ⟨v, F', by simpa using q1, q2, fun b hb => List.mem_append_right _ (q3 b hb)⟩
  unfold atI at e ⊢
  rw [h.len]
  cases hj : ixN xs.length k with
  | none => rw [hj] at e; cases e
  | some j =>
    rw [hj] at e
    obtain ⟨v, F', q1, q2, q3⟩ := go h e
    exact ⟨v, F', q1, q2, q3⟩
theorem At.ho {v : V} {x : Dt} {ks : List Int} {w : V} {y : Dt} (h : At H v x ks w y) : ∀ {F : List Addr}, Ho K H v x F → ∃ F', Ho K H w y F' ∧ ∀ b ∈ F', b ∈ F := by
  induction h with
  | nil => exact fun h => ⟨_, h, fun _ z => z⟩
  | cons q1 q2 q3 _ ih =>
    intro F h
    cases h with
    | l h1 h2 =>
      rw [q1] at h1; cases h1
      obtain ⟨v', F', e1, e2, e3⟩ := atI_ho h2 q3
      rw [q2] at e1; cases e1
      obtain ⟨F2, z1, z2⟩ := ih e2
      exact ⟨F2, z1, fun b hb => List.mem_cons_of_mem _ (e3 b (z2 b hb))⟩
theorem At.stay {v : V} {x : Dt} {ks : List Int} {w : V} {y : Dt} (h : At H v x ks w y) : ∀ {F : List Addr}, Ho K H v x F → (∀ b ∈ F, H' b = H b) → At H' v x ks w y := by
  induction h with
  | nil => exact fun _ _ => .nil
  | cons q1 q2 q3 _ ih =>
    intro F h k
    cases h with
    | l h1 h2 =>
      have h1' := h1
      rw [q1] at h1'; cases h1'
      obtain ⟨v', F', e1, e2, e3⟩ := atI_ho h2 q3
      rw [q2] at e1; cases e1
      exact .cons ((k _ List.mem_cons_self).trans h1) q2 q3 (ih e2 fun b hb => k b (List.mem_cons_of_mem _ (e3 b hb)))
end
end Y
namespace Y
open PySem L2 PyProof.Rows
section
variable {K : PySem.W.Frag} {cl : Str → Addr} {W : WX} {io : Bool} {M M' M0 : Addr → Prop} {H H' H0 : Hp} {G G' G0 : Nat → List Addr} {r r' : Ev} {σ σ0 : L2.St} {D : Ends}
/-- a value given up, told as before -/
theorem PX.cold {v : V} {x : Dt} {m : Md} {F : List Addr} (ht : Hotty M H) (p : PX K r' σ H M G v x m H' M' G' F) : ∃ M2, PX K r' σ H M G v x .c H' M2 G' [] := by
  obtain ⟨M2, e2, v2, c2⟩ := p.giveUp ht
  exact ⟨M2, e2, v2, ⟨c2, rfl⟩, List.nodup_nil, fun _ z => nomatch z⟩
/-- name.extend(f), the name's list owned -/
def sExt (i : Nat) (f : Ev → Ou Vl) : Ev → So := fun r => if isL i r then sWith f (fun y r1 => match y.1, r1[i]? with
    | .l ys, some (some (.l xs, .t)) => if xs.length + ys.length ≤ LIM then .nx (r1.set i (some (.l (xs ++ ys), .t))) else .no
    | _, _ => .no) r else .no
end
section
variable {X : Cx} {cl : Str → Addr} {W : WX} {io : Bool}
/-- name.pop(f), the name's list owned -/
def mPop (i : Nat) (f : Ev → Ou Vl) : Ev → Ou Vl := fun r => if isL i r then match f r with
    | .ok (.i k, _) r1 => match r1[i]? with
      | some (some (.l xs, .t)) => if xs.length ≤ LIM then match seqIndex? k xs.length with
          | some j => match xs[j]? with
            | some y => .ok (y, .c) (r1.set i (some (.l (xs.eraseIdx j), .t)))
            | none => .no
          | none => .no
        else .no
      | _ => .no
    | .ok _ _ => .no
    | .ex c fs r1 => .ex c fs r1
    | .no => .no
  else .no
theorem CoL.erase {K : PySem.W.Frag} {M : Addr → Prop} {H : Hp} : ∀ {us : List V} {xs : List Dt} {j : Nat}, CoL K M H us xs → CoL K M H (us.eraseIdx j) (xs.eraseIdx j)
  | _, _, _, .nil => .nil
  | _, _, 0, .cons _ q => q
  | _, _, j + 1, .cons h q => .cons h (CoL.erase q)
/-- name.pop() -/
def mPop0 (i : Nat) : Ev → Ou Vl := fun r => match r[i]? with
  | some (some (.l xs, .t)) => match xs[xs.length - 1]? with
    | some y => .ok (y, .c) (r.set i (some (.l xs.dropLast, .t)))
    | none => .no
  | _ => .no
def mLstO (fs : List (Ev → Ou Vl)) : Ev → Ou Vl := fun r => match evH fs r with
  | .ok xs r1 => if xs.length ≤ LIM ∧ xs.all zfl = true then .ok (.l (xs.map (·.1)), .a) r1 else .no
  | .ex c fs r1 => .ex c fs r1
  | .no => .no
theorem HL.toA {K : PySem.W.Frag} {M : Addr → Prop} {H : Hp} : ∀ {vs : List V} {xs : List Vl} {F : List Addr}, HL K M H vs xs F → xs.all zfl = true → HoL K H vs (xs.map (·.1)) F
  | _, _, _, .nil, _ => .nil
  | _, _, _, .cons rp q, h => by
    simp only [List.all_cons, Bool.and_eq_true] at h
    exact .cons (rp.toA h.1) (HL.toA q h.2)
end
end Y
namespace Y
open PySem L2 PyProof.Rows
section
variable {K : PySem.W.Frag} {cl : Str → Addr} {W : WX} {M M' M1 M4 M5 : Addr → Prop} {H H' H1 H4 H5 : Hp} {G G' G1 G4 G5 : Nat → List Addr} {r r' r4 r5 : Ev} {σ σ' σ4 : L2.St}
/-- two generators -/
def lc2L (vs vs1 : List Nat) (t : Vl → Ev → Option Ev) (c : Ev → Ou Bool) (s1 : Ev → Ou (List Dt)) (t1 : Vl → Ev → Option Ev) (c1 : Ev → Ou Bool) (f : Ev → Ou Vl) : List Dt → Ev → List Dt → Ou (List Dt)
  | [], r, acc => .ok acc r
  | x :: xs, r, acc => match t (x, .c) r with
    | none => .no
    | some r1 => match c r1 with
      | .ok false r2 => lc2L vs vs1 t c s1 t1 c1 f xs (wipeE r2 vs) acc
      | .ok true r2 => match s1 r2 with
        | .ok ys r3 => if acc.length + ys.length ≤ LIM then
            match lcL vs1 t1 c1 f false ys (wipeE r3 vs1) acc with
            | .ok acc1 r4 => lc2L vs vs1 t c s1 t1 c1 f xs (wipeE r4 vs) acc1
            | _ => .no
          else .no
        | _ => .no
      | _ => .no
def mLc2 (vs vs1 : List Nat) (s : Ev → Ou (List Dt)) (t : Vl → Ev → Option Ev) (c : Ev → Ou Bool) (s1 : Ev → Ou (List Dt)) (t1 : Vl → Ev → Option Ev) (c1 : Ev → Ou Bool) (f : Ev → Ou Vl) : Ev → Ou Vl := fun r => match s r with
  | .ok xs r1 => match lc2L vs vs1 t c s1 t1 c1 f xs (wipeE r1 vs) [] with
    | .ok ys r2 => .ok (.l ys, .t) (rsE r1 vs r2)
    | _ => .no
  | .ex c fs r1 => .ex c fs r1
  | .no => .no
end
end Y
namespace Y
open PySem L2
def flS : Option Vl → Bool
  | some xm => zfl xm
  | none => true
/-- all slots but the i-th are flat, the i-th a cold list of flat things -/
def okE : Nat → Ev → Bool
  | _, [] => false
  | 0, o :: r => (match o with
    | some (.l ys, .c) => flatL ys
    | _ => false) && r.all flS
  | i + 1, o :: r => flS o && okE i r
def ownE : Nat → Ev → Ev
  | _, [] => []
  | 0, o :: r => (match o with
    | some (.l ys, .c) => some (.l ys, .t)
    | _ => o) :: r
  | i + 1, o :: r => o :: ownE i r
end Y
namespace Y
open PySem L2 PyProof.Rows
theorem rngD_at {lo : Int} {n i : Nat} {x : Dt} (h : (rngD lo n)[i]? = some x) : x = .i (lo + i) ∧ i < n := by
  simp only [rngD, List.getElem?_map, Option.map_eq_some_iff] at h
  obtain ⟨j, hj, rfl⟩ := h
  obtain ⟨h1, h2⟩ := List.getElem?_eq_some_iff.mp hj
  simp at h1 h2
  subst h2
  exact ⟨rfl, h1⟩
theorem rngD_len {lo : Int} {n : Nat} : (rngD lo n).length = n := by simp [rngD]
/-- data that can be told equal -/
def pl : Nat → Dt → Bool
  | 0, _ => false
  | d + 1, .t xs => decide (xs.length ≤ LIM) && xs.all (pl d)
  | d + 1, .l xs => decide (xs.length ≤ LIM) && xs.all (pl d)
  | _ + 1, .n => true
  | _ + 1, .b _ => true
  | _ + 1, .i _ => true
  | _ + 1, .s z => PyData.strOk z
  | _ + 1, _ => false
theorem flat_i (ns : List Int) : flatL (ns.map .i) = true := by
  induction ns with
  | nil => rfl
  | cons n ns ih => simp [flatL, Dt.flat, ih]
theorem shp_i (a : Int) : shp (.i a) = true := by simp [shp, toP, SeqAt.shaped, PyData.canLay0, PyData.depth]
theorem shp_b (a : Bool) : shp (.b a) = true := by simp [shp, toP, SeqAt.shaped, PyData.canLay0, PyData.depth]
theorem beq_dec {α : Type} [BEq α] [LawfulBEq α] [DecidableEq α] (a b : α) : (a == b) = decide (a = b) := by by_cases h : a = b <;> simp [h]
theorem eqD_i (a b : Int) : eqD (.i a) (.i b) = decide (a = b) := by simp only [eqD, toP, PyData.eqv, beq_dec]
theorem eqD_b (a b : Bool) : eqD (.b a) (.b b) = decide (a = b) := by cases a <;> cases b <;> rfl
theorem fEq_i (a b : Int) : fEq [.i a, .i b] = some (.b (decide (a = b)), .c) := by simp [fEq, shp_i, eqD_i]
theorem fEq_b (a b : Bool) : fEq [.b a, .b b] = some (.b (decide (a = b)), .c) := by simp [fEq, shp_b, eqD_b]
theorem fNe_i (a b : Int) : fNe [.i a, .i b] = some (.b (!decide (a = b)), .c) := by simp [fNe, shp_i, eqD_i]
theorem fNe_b (a b : Bool) : fNe [.b a, .b b] = some (.b (!decide (a = b)), .c) := by simp [fNe, shp_b, eqD_b]
theorem cMul_l {a b : Int} (h1 : -(2 ^ 64) < a) (h2 : a < 2 ^ 64) : cMul a b = true := by simp [cMul]; left; omega
theorem cMul_r {a b : Int} (h1 : -(2 ^ 64) < b) (h2 : b < 2 ^ 64) : cMul a b = true := by simp [cMul]; right; omega
theorem fIx_l (xs : List Dt) (n : Int) : fIx [.l xs, .i n] = (atI xs n).map (·, .c) := rfl
theorem fIx_t (xs : List Dt) (n : Int) : fIx [.t xs, .i n] = (atI xs n).map (·, .c) := rfl
theorem fIx_z (xs : List Dt) (n : Int) : fIx [.z xs, .i n] = (atI xs n).map (·, .c) := rfl
theorem ixN_nat {n k : Nat} (h : k < n) : ixN n (k : Int) = some k := by
  unfold ixN
  rw [if_pos (by omega)]
  simp
  omega
theorem atI_nat {α : Type} (xs : List α) (k : Nat) : atI xs (k : Int) = xs[k]? := by
  unfold atI
  by_cases h : k < xs.length
  · rw [ixN_nat h]; rfl
  · rw [List.getElem?_eq_none (by omega)]
    unfold ixN
    rw [if_pos (by omega)]
    simp [h]
end Y
namespace Y
open PySem L2 PyProof.Rows
section
variable {X : Cx} {K : PySem.W.Frag} {cl : Str → Addr} {W : WX} {σ : L2.St} {H : Hp}
/-- a method's call on a list: the list is one -/
def isLd : Dt → Bool
  | .l _ => true
  | _ => false
def mMt (p : List Dt → Option Vl) (A : Am) (as : List Am) : Ev → Ou Vl := fun r => match evA [A] r with
  | .ok ys r1 => match look r1 ys with
    | some [x] => if isLd x then mP p (A :: as) r else .no
    | _ => .no
  | .ex c fs r1 => .ex c fs r1
  | .no => .no
theorem ty_listC {M : Addr → Prop} {v : V} {xs : List Dt} (c : Co K M H v (.l xs)) : tyV K "list" v H := by
  obtain ⟨a, us, rfl, h, _⟩ := c.lst
  exact .inl ⟨rfl, _, .inl (.inl h)⟩
def m2l (r : V → List V → Hp → VK → Prop) : List V → Hp → VK → Prop
  | x :: xs, H, Q => r x xs H Q
  | [], _, _ => False
theorem mP_end {rr : List V → Hp → VK → Prop} {f : List Dt → Option Vl} (hp : Pr K rr f) {Q : VK} {H0 H1 : Hp} {M0 M1 : Addr → Prop} {G0 G1 : Nat → List Addr} {r1 : Ev} {vs : List V} {ys : List Ag} {xs : List Dt} {x : Dt} {m : Md} (ht : Hotty M0 H0)
    (e1 : ER K r1 σ G1 M1 H1) (v1 : Evo H0 M0 G0 H1 M1 G1 []) (a1 : AgL K M1 H1 σ vs ys) (hl : look r1 ys = some xs) (hf : f xs = some (x, m))
    (h : ∀ v H' M' G' F, PX K (if x.flat then r1 else frz ys r1) σ H0 M0 G0 v x m H' M' G' F → Q v H') : rr vs H1 Q := by
  have cc : CoL K (fun b => M1 b ∧ b ∉ owns G1 ys) H1 vs xs := look_cold e1 (fun b z => z.1) (fun b hb z => z.2 hb) a1 hl
  have ht1 : Hotty (fun b => M1 b ∧ b ∉ owns G1 ys) H1 := fun b z => e1.hot b z.1
  by_cases hx : x.flat = true
  · rw [if_pos hx] at h
    exact hp _ H1 vs xs x m Q ht1 cc hf fun v H2 F p => h v H2 _ _ F (p.px e1 v1 ht hx)
  · rw [if_neg hx] at h
    obtain ⟨G2, e2, s2⟩ := e1.frz ys
    have v2 : Evo H1 M1 G1 H1 (fun b => M1 b ∧ b ∉ owns G1 ys) G2 [] := ⟨fun _ _ h _ => h, fun _ h => h, fun b z => .inl z.1, fun b h hb => ⟨h, fun z => let ⟨i, q⟩ := mem_owns z; hb i q⟩, fun i b hb => .inl ⟨i, s2 i b hb⟩, fun _ h => nomatch h⟩
    exact hp _ H1 vs xs x m Q ht1 cc hf fun v H2 F p => h v H2 _ _ F (p.px2 e2 (v1.trans ht v2) ht)
theorem tO_and {A : Am} {as : List Am} {p : List Dt → Option Vl} {rr : V → List V → Hp → VK → Prop} (hp : Pr K (m2l rr) p) {Q : VK} (h : tI K cl W (mMt p A as) σ H Q) : tO K cl W A σ H fun v H1 => tyV K "list" v H1 ∧ tOs K cl W as σ H1 fun vs H2 => rr v vs H2 Q := by
  obtain ⟨r, M, G, e, h⟩ := h
  simp only [mMt] at h
  cases A with
  | v i =>
    simp only [evA] at h
    cases hr : r[i]? with
    | none => rw [hr] at h; exact h.elim
    | some o =>
      cases o with
      | none => rw [hr] at h; exact h.elim
      | some xm =>
        obtain ⟨x, m⟩ := xm
        rw [hr] at h
        simp only [look, hr, Option.map_some] at h
        by_cases hx : isLd x = true
        · rw [if_pos hx] at h
          have := mP_ok hp (cl := cl) (W := W) (σ := σ) (H := H) (K := K) (as := .v i :: as) (Q := Q) ⟨r, M, G, e, h⟩
          obtain ⟨v, hv, q⟩ := this
          refine ⟨v, hv, ?_, q⟩
          cases x with
          | l xs =>
            obtain ⟨a, us, h1, h2⟩ := e.isL hr ⟨xs, rfl⟩
            rw [hv] at h1
            cases h1
            exact .inl ⟨rfl, us, .inl (.inl h2)⟩
          | _ => cases hx
        · rw [if_neg hx] at h; exact h.elim
  | e f =>
    show tI K cl W f σ H _
    refine ⟨r, M, G, e, ?_⟩
    simp only [evA] at h
    cases hf : f r with
    | no => rw [hf] at h; exact h
    | ex c fs r1 => rw [hf] at h; exact h
    | ok xm r1 =>
      obtain ⟨x, m⟩ := xm
      rw [hf] at h
      simp only [look, Option.map_some] at h
      by_cases hx : isLd x = true
      · rw [if_pos hx] at h
        intro v H1 M1 G1 F px
        have ht : tyV K "list" v H1 := by
          cases x with
          | l xs =>
            cases m with
            | c => exact ty_listC px.rp.1
            | t =>
              obtain ⟨a, us, xs', rfl, _, _, q, _⟩ := px.rp
              exact .inl ⟨rfl, us, .inl (.inl q)⟩
            | a =>
              have q : Ho K H1 v (.l xs) F := px.rp
              cases q with
              | l q _ => exact .inl ⟨rfl, _, .inl (.inl q)⟩
          | _ => cases hx
        refine ⟨ht, ?_⟩
        obtain ⟨M2, e2, v2, c2⟩ := px.giveUp e.hot
        refine tOs_ok as e2 ?_
        simp only [mP, evA, hf] at h
        cases ha : evA as r1 with
        | no => rw [ha] at h; exact h
        | ex c fs r2 =>
          rw [ha] at h
          exact fun d H3 M3 G3 q => h d H3 M3 G3 ⟨q.er, v2.trans e.hot q.ev, q.xd⟩
        | ok ys r2 =>
          rw [ha] at h
          simp only at h
          intro vs H3 M3 G3 e3 v3 a3
          have c3 := c2.fm (e2.fm v3)
          have a4 : AgL K M3 H3 σ (v :: vs) (.d x :: ys) := .d c3 a3
          have v4 := v2.trans e.hot v3
          cases hl : look r2 (.d x :: ys) with
          | none => rw [hl] at h; exact h.elim
          | some xs =>
            rw [hl] at h
            simp only at h
            cases hq : p xs with
            | none => rw [hq] at h; exact h.elim
            | some xm =>
              obtain ⟨x', m'⟩ := xm
              rw [hq] at h
              exact mP_end hp e.hot e3 v4 a4 hl hq h
      · rw [if_neg hx] at h; exact h.elim
def fIdx : List Dt → Option Vl
  | [.l xs, y] => if shp (.l xs) && shp y then (xs.findIdx? fun z => eqD z y).map fun j => (.i (j : Nat), .c) else none
  | _ => none
theorem pr_idx : Pr K (m2l (rIndexD K)) fIdx := fun M H vs xs x m Q ht c hf k => by
  unfold fIdx at hf
  split at hf
  · split at hf
    · rename_i ys y h
      simp only [Option.map_eq_some_iff] at hf
      obtain ⟨j, hj, hf⟩ := hf
      cases hf
      simp only [Bool.and_eq_true] at h
      obtain ⟨v, w, rfl, c1, c2⟩ := c.two
      have h1 := c1.dp (nob_shp h.1)
      obtain ⟨a, us, rfl, _, _⟩ := c1.lst
      obtain ⟨g1, g2, g3⟩ := List.findIdx?_eq_some_iff_getElem.mp hj
      refine ⟨a, w, toP y, toPL ys, j, toP ys[j], rfl, rfl, h1, c2.dp (nob_shp h.2), h.1, h.2, ?_, g2, fun m z' hm hz => ?_, k _ _ _ (mk_c ht (.i _))⟩
      · rw [toPL_map, List.getElem?_map, List.getElem?_eq_getElem g1]; rfl
      · rw [toPL_map, List.getElem?_map, List.getElem?_eq_getElem (by omega)] at hz
        cases hz
        have := g3 m hm
        simpa [eqD] using this
    · cases hf
  · cases hf
theorem je_idx {o e : Expr} {A B : Am} {apos cpos : Pos} (hu : X.A.units + 65 < cLine) (ho : JO X cl W o A) (he : JO X cl W e B)
    (hbase : attributeBase o "index" X.env (eval o X.env) = eval o X.env := by rfl)
    (hfew : ((backTo cpos (starEach [e] X.env)).all (fun x => !x.1) && (backToKw cpos (keywordEach [] X.env)).all (fun x => x.1.isSome)
      && decide ([e].length + ([] : List Keyword).length + (if ([] : List Keyword).isEmpty then 0 else 1) < 30)) = true := by rfl)
    (hline : (apos.endLine == cpos.line) = true := by rfl) (hs : starEach [e] X.env = (false, eval e X.env) :: starEach [] X.env := by rfl) : JE X cl W (.Call (.Attribute o "index" apos) [e] [] cpos) (mMt fIdx A [B]) := fun tk =>
  (pe_bm PySem.F.plainAttrs_list PySem.F.slot_list_index PySem.F.type_list_index (mt_indexD hu) (ho.pe tk) ((ja_c (cl := cl) (W := W) he ja_n hs).pa tk) hbase hfew hline hs).yimp fun _ _ _ q => tO_and pr_idx q
end
end Y
namespace Y
open PySem L2 PyProof.Rows
section
variable {X : Cx} {K : PySem.W.Frag} {cl : Str → Addr} {W : WX} {σ : L2.St} {M : Addr → Prop} {H : Hp} {C : Addr} {c f : Str}
theorem CoL.lookup : ∀ {fvs : List (Str × V)} {fs : List Dt} {x : Dt}, CoL K M H (fvs.map (·.2)) fs → ((fvs.map (·.1)).zip fs).lookup f = some x → ∃ v, fvs.lookup f = some v ∧ Co K M H v x
  | [], _, _, _, h => by simp at h
  | (g, v) :: fvs, [], _, q, _ => by cases q
  | (g, v) :: fvs, y :: fs, x, q, h => by
    cases q with
    | cons q1 q2 =>
      simp only [List.map_cons, List.zip_cons_cons, List.lookup_cons] at h ⊢
      cases e : f == g with
      | true =>
        rw [e] at h
        cases h
        exact ⟨v, rfl, q1⟩
      | false =>
        rw [e] at h
        exact CoL.lookup q2 h
def isO (c m : Str) : Dt → Bool
  | .o c' ns _ => decide (c' = c) && !ns.contains m
  | _ => false
def mMe (c m : Str) (fn : Fn) (A : Am) (as : List Am) : Ev → Ou Vl := fun r => match evA [A] r with
  | .ok ys r1 => match look r1 ys with
    | some [x] => if isO c m x then mC fn (A :: as) r else .no
    | _ => .no
  | .ex c fs r1 => .ex c fs r1
  | .no => .no
end
end Y
namespace Y
open PySem L2 PyProof.Rows
def rem (H : Hp) (p : Addr) : Hp := fun b => if b = p then none else H b
theorem rem_ne {H : Hp} {p b : Addr} (h : b ≠ p) : rem H p b = H b := if_neg h
theorem rem_at {H : Hp} {p : Addr} : rem H p p = none := if_pos rfl
theorem rem_some {H : Hp} {p b : Addr} {o : HO} (h : rem H p b = some o) : b ≠ p ∧ H b = some o := by
  by_cases e : b = p
  · rw [e, rem_at] at h; cases h
  · rw [rem_ne e] at h; exact ⟨e, h⟩
theorem rem_none {H : Hp} {p b : Addr} (h : H b = none) : rem H p b = none := by
  by_cases e : b = p
  · rw [e, rem_at]
  · rw [rem_ne e, h]
def nobE : Ev → Bool
  | [] => true
  | none :: r => nobE r
  | some (x, _) :: r => nob x && nobE r
theorem nobE_at : ∀ {r : Ev} {i : Nat} {x : Dt} {m : Md}, nobE r = true → r[i]? = some (some (x, m)) → nob x = true
  | [], _, _, _, _, h => by simp at h
  | none :: r, 0, _, _, _, h => by simp at h
  | some (y, n) :: r, 0, x, m, hb, h => by
    simp only [List.getElem?_cons_zero, Option.some.injEq, Prod.mk.injEq] at h
    obtain ⟨rfl, rfl⟩ := h
    simp only [nobE, Bool.and_eq_true] at hb
    exact hb.1
  | none :: r, i + 1, x, m, hb, h => nobE_at (r := r) (i := i) hb (by simpa using h)
  | some (y, n) :: r, i + 1, x, m, hb, h => by
    simp only [nobE, Bool.and_eq_true] at hb
    exact nobE_at (r := r) (i := i) hb.2 (by simpa using h)
section
variable {K : PySem.W.Frag} {M M' : Addr → Prop} {H H' H0 : Hp} {p C dx : Addr} {fvs : List (Str × V)} {G G' : Nat → List Addr} {F : List Addr} {r r' : Ev} {σ : L2.St}
theorem rd_rem (hp : H p = some (.ins C dx fvs)) {a : Addr} {u : HO} (h : Rd H a u) (hu : ∀ z, u ≠ .ins C dx z) : Rd (rem H p) a u := by
  rcases h with h | ⟨o, h⟩
  · exact .inl (by rw [rem_ne (ne_of h hp (hu _))]; exact h)
  · exact .inr ⟨o, by rw [rem_ne (ne_of h hp fun z => by cases z)]; exact h⟩
mutual
theorem Co.rem (hp : H p = some (.ins C dx fvs)) : ∀ {v : V} {x : Dt}, Co K M H v x → nob x = true → Co K M (rem H p) v x
  | _, _, .n, _ => .n
  | _, _, .b x, _ => .b x
  | _, _, .i x, _ => .i x
  | _, _, .s x, _ => .s x
  | _, _, .t h q, b => .t (h.imp (fun z => rd_rem hp z fun _ e => by cases e) id) (CoL.rem hp q b)
  | _, _, .l h hn q, b => .l (by rw [rem_ne (ne_of h hp fun e => by cases e)]; exact h) hn (CoL.rem hp q b)
  | _, _, .z h q, b => .z (h.imp (fun ⟨o, z⟩ => ⟨o, by rw [rem_ne (ne_of z hp fun e => by cases e)]; exact z⟩) id) (CoL.rem hp q b)
  | _, _, .m _ _ _, b => nomatch b
  | _, _, .o _ _ _ _, b => nomatch b
  | _, _, .x0 _ _, b => nomatch b
  | _, _, .f _, b => nomatch b
  | _, _, .k _ _ _ _ _ _, b => nomatch b
  | _, _, .x1 _ _ _ _, b => nomatch b
theorem CoL.rem (hp : H p = some (.ins C dx fvs)) : ∀ {vs : List V} {xs : List Dt}, CoL K M H vs xs → nobL xs = true → CoL K M (rem H p) vs xs
  | _, _, .nil, _ => .nil
  | _, _, .cons h q, b => .cons (Co.rem hp h (by simp only [nobL, Bool.and_eq_true] at b; exact b.1)) (CoL.rem hp q (by simp only [nobL, Bool.and_eq_true] at b; exact b.2))
end
mutual
theorem Ho.nobs : ∀ {v : V} {x : Dt} {F : List Addr}, Ho K H v x F → nob x = true → ∀ b ∈ F, ∃ xs, H b = some (.lst xs)
  | _, _, _, .n, _, _, h => nomatch h
  | _, _, _, .b x, _, _, h => nomatch h
  | _, _, _, .i x, _, _, h => nomatch h
  | _, _, _, .s x, _, _, h => nomatch h
  | _, _, _, .t h q, n, b, hb => HoL.nobs q n b hb
  | _, _, _, .z h q, n, b, hb => HoL.nobs q n b hb
  | _, _, _, .l h q, n, b, hb => by
    rcases List.mem_cons.mp hb with e | hb
    · rw [e]; exact ⟨_, h⟩
    · exact HoL.nobs q n b hb
  | _, _, _, .m _ _, n, _, _ => nomatch n
  | _, _, _, .o _ _ _, n, _, _ => nomatch n
  | _, _, _, .k _ _ _ _ _, n, _, _ => nomatch n
theorem HoL.nobs : ∀ {vs : List V} {xs : List Dt} {F : List Addr}, HoL K H vs xs F → nobL xs = true → ∀ b ∈ F, ∃ xs, H b = some (.lst xs)
  | _, _, _, .nil, _, _, h => nomatch h
  | _, _, _, .cons h q, n, b, hb => by
    simp only [nobL, Bool.and_eq_true] at n
    rcases List.mem_append.mp hb with hb | hb
    · exact Ho.nobs h n.1 b hb
    · exact HoL.nobs q n.2 b hb
end
theorem Rp.rem (hp : H p = some (.ins C dx fvs)) {m : Md} {v : V} {x : Dt} (h : Rp K M H m v x F) (b : nob x = true) : Rp K M (rem H p) m v x F := by
  cases m with
  | c => exact ⟨h.1.rem hp b, h.2⟩
  | t =>
    obtain ⟨a, vs, xs, h1, h2, h3, h4, h5⟩ := h
    subst h2
    exact ⟨a, vs, xs, h1, rfl, h3, by rw [rem_ne (ne_of h4 hp fun e => by cases e)]; exact h4, h5.rem hp b⟩
  | a =>
    refine Ho.stay (fun a xs q => rd_rem hp q fun _ e => by cases e) (fun a o u q => by rw [rem_ne (ne_of q hp fun e => by cases e)]; exact q) h fun a ha => ?_
    obtain ⟨xs, q⟩ := Ho.nobs h b a ha
    exact rem_ne (ne_of q hp fun e => by cases e)
theorem ER.rem (hp : H p = some (.ins C dx fvs)) (hm : ¬ M p) {y : Dt} (e : ER K (some (y, .c) :: r) σ G M H) (b : nobE r = true) : ER K (none :: r) σ G M (rem H p) := by
  refine ⟨by simpa using e.len, fun i x m h => ?_, fun i h => ?_, e.nd, e.dj, e.sub, fun a ha => ?_, e.tab.cold fun b o h n => by rw [rem_ne (ne_of h hp fun z => n (by rw [z]; trivial))]; exact h⟩
  · cases i with
    | zero => simp at h
    | succ i =>
      have h2 : r[i]? = some (some (x, m)) := by simpa using h
      obtain ⟨v, h3, h4⟩ := e.at_ (i + 1) x m (by simpa using h2)
      exact ⟨v, h3, h4.rem hp (nobE_at b h2)⟩
  · cases i with
    | zero =>
      obtain ⟨v, _, h4⟩ := e.at_ 0 y .c (by simp)
      exact h4.2
    | succ i => exact e.emp (i + 1) fun x m q => h x m (by simpa using q)
  · obtain ⟨xs, q, ho⟩ := e.hot a ha
    exact ⟨xs, by rw [rem_ne fun z => hm (by rw [← z]; exact ha)]; exact q, ho⟩
theorem Evo.rem (a : Evo H M G H' M' G' F) : Evo (rem H p) M G (rem H' p) M' G' F := by
  refine ⟨fun b o q k {nt} => ?_, fun b q => ?_, fun b q => (a.grow b q).imp id rem_none, a.keep, fun i b q => (a.env i b q).imp id rem_none, fun b q => (a.res b q).imp id rem_none⟩
  · obtain ⟨h1, h2⟩ := rem_some q
    rw [rem_ne h1]
    exact a.pres b o h2 k
  · by_cases e : b = p
    · rw [e, rem_at]
    · rw [rem_ne e] at q ⊢
      exact a.dom b q
/-- the object alone, nobody else knows it -/
structure NS (K : PySem.W.Frag) (C p : Addr) (H0 : Hp) (M0 : Addr → Prop) (G0 : Nat → List Addr) (r : Ev) (ns : List Str) (fs : List Dt) (σ : L2.St) (H : Hp) (M : Addr → Prop) (G : Nat → List Addr) : Prop where
  ob : ∃ dx fvs, H p = some (.ins C dx fvs) ∧ fvs.map (·.1) = ns ∧ CoL K M (Y.rem H p) (fvs.map (·.2)) fs
  er : ER K (none :: r) σ G M (Y.rem H p)
  ev : Evo (Y.rem H0 p) M0 G0 (Y.rem H p) M G []
  s0 : σ[0]? = some (some (.ref p))
  ht : Hotty M0 (Y.rem H0 p)
theorem NS.nm {M0 : Addr → Prop} {G0 : Nat → List Addr} {ns : List Str} {fs : List Dt} (S : NS K C p H0 M0 G0 r ns fs σ H M G) : ¬ M p := fun z => by
  obtain ⟨o, q, _⟩ := S.er.hot p z
  rw [rem_at] at q
  cases q
end
inductive IR where
  | fld (f : Str) (g : Ev → Ou Vl)
  | st (s : Ev → So)
def iRun (c : Str) : List IR → Ev → List Str → List Dt → Option (List Str × List Dt)
  | [], _, ns, fs => some (ns, fs)
  | .fld f g :: w, r, ns, fs => match g (some (.o c ns fs, .c) :: r) with
    | .ok (x, _) (some (_, .c) :: r2) => if (nob x && nobE r2 && !ns.contains f && decide (ns.length < 900)) = true then iRun c w r2 (ns ++ [f]) (fs ++ [x]) else none
    | _ => none
  | .st s :: w, r, ns, fs => match s (some (.o c ns fs, .c) :: r) with
    | .nx (some (_, .c) :: r2) => if nobE r2 = true then iRun c w r2 ns fs else none
    | _ => none
def fnMk (c : Str) (pad : Nat) (w : List IR) : Fn := fun xs => match iRun c w (xs.map some ++ List.replicate pad none) [] [] with
  | some (ns, fs) => .rt (.o c ns fs, .c) (.n, .c)
  | none => .no
end Y
namespace Y
open PySem L2 PyProof.Rows
section
variable {X : Cx} {K : PySem.W.Frag} {cl : Str → Addr} {W : WX}
theorem ip_fdivC : PIp X .FloorDiv (ipC CDivW fun i j => i / j) := by
  intro pins s σ H x y v u Q I r1 r2 h
  obtain ⟨i, j, e1, e2, hc, q⟩ := h
  exact iop_fdivW pins s σ H x y v u Q I r1 r2 ⟨i, j, e1, e2, hc, q⟩
def cDiv : Int → Int → Bool := fun _ j => decide (0 < j) && decide (j.natAbs.log2 < 9000)
theorem cDiv_ok {a b : Int} (h : cDiv a b = true) : CDivW a b := by simpa [cDiv, CDivW] using h
def fDivmod : List Dt → Option Vl
  | [.i a, .i b] => if (decide (0 < b) && decide (b < 1073741824)) = true then some (.t [.i (a / b), .i (a % b)], .c) else none
  | _ => none
def fLrg : List Dt → Option Vl
  | [.i i, .i j, .i c] => if c = -1 ∧ -(2 ^ 60) ≤ i ∧ i ≤ 2 ^ 60 ∧ -(2 ^ 60) ≤ j ∧ j ≤ 2 ^ 60 ∧ i - j ≤ LIM then some (.l (rngC i (-1) (i - j).toNat), .t) else none
  | _ => none
end
end Y
namespace Y
open PySem L2 PyProof.Rows
def forH (t : Vl → Ev → Option Ev) (body : Ev → So) : List Vl → Ev → So
  | [], r => .nx r
  | x :: xs, r => match t x r with
    | none => .no
    | some r1 => match body r1 with
      | .nx r2 => forH t body xs r2
      | .ct r2 => forH t body xs r2
      | .bk r2 => .nx r2
      | .rt x r2 => .rt x r2
      | .ex c fs r2 => .ex c fs r2
      | .no => .no
def sForH (fs : List (Ev → Ou Vl)) (t : Vl → Ev → Option Ev) (body : Ev → So) : Ev → So := fun r => match evH fs r with
  | .ok xs r1 => if xs.length ≤ LIM then forH t body xs r1 else .no
  | .ex c fs r1 => .ex c fs r1
  | .no => .no
section
variable {K : PySem.W.Frag} {cl : Str → Addr} {W : WX} {io : Bool} {M M' M0 : Addr → Prop} {H H' H0 : Hp} {G G' G0 : Nat → List Addr} {r r' : Ev} {σ σ' σ0 : L2.St} {D : Ends}
theorem Rp.stay {m : Md} {v : V} {x : Dt} {F : List Addr} (h : Rp K M H m v x F) (f : Fm M H M' H') (st : ∀ b ∈ F, H' b = H b) (hF : ∀ b ∈ F, M b) : Rp K M' H' m v x F := by
  cases m with
  | c => exact ⟨h.1.fm f, h.2⟩
  | t =>
    obtain ⟨a, vs, xs, h1, h2, h3, h4, h5⟩ := h
    exact ⟨a, vs, xs, h1, h2, h3, by rw [st a (by rw [h3]; simp), h4], h5.fm f⟩
  | a =>
    refine Ho.stay (fun b xs q => ?_) (fun b o u q => ?_) h st
    · exact f.rd q (f.hot.nrd q)
    · exact f.keep b _ q (f.hot.nfz q)
theorem HL.stay : ∀ {vs : List V} {xs : List Vl} {F : List Addr}, HL K M H vs xs F → Fm M H M' H' → (∀ b ∈ F, H' b = H b) → (∀ b ∈ F, M b) → HL K M' H' vs xs F
  | _, _, _, .nil, _, _, _ => .nil
  | _, _, _, .cons rp q, f, st, hF => .cons (rp.stay f (fun b hb => st b (List.mem_append_left _ hb)) fun b hb => hF b (List.mem_append_left _ hb)) (q.stay f (fun b hb => st b (List.mem_append_right _ hb)) fun b hb => hF b (List.mem_append_right _ hb))
theorem HL.lists : ∀ {vs : List V} {xs : List Vl} {F : List Addr}, HL K M H vs xs F → ∀ b ∈ F, ∃ o, H b = some o ∧ hotO o
  | _, _, _, .nil, _, z => nomatch z
  | _, _, _, .cons rp q, b, hb => (List.mem_append.mp hb).elim (rp.lists b) (q.lists b)
/-- what is held, beside an environment -/
structure Hd (K : PySem.W.Frag) (M : Addr → Prop) (H : Hp) (G : Nat → List Addr) (vs : List V) (xs : List Vl) (F : List Addr) : Prop where
  hl : HL K M H vs xs F
  nd : F.Nodup
  hot : ∀ b ∈ F, M b ∧ ∀ i, b ∉ G i
theorem Hd.evo {vs : List V} {xs : List Vl} {F F2 : List Addr} (d : Hd K M H G vs xs F) (e : ER K r σ G M H) (a : Evo H M G H' M' G' F2) : Hd K M' H' G' vs xs F := by
  have st : ∀ b ∈ F, H' b = H b := fun b hb => by
    obtain ⟨zs, q, _⟩ := d.hl.lists b hb
    rw [q]
    exact a.pres b _ q (d.hot b hb).2
  refine ⟨d.hl.stay (e.fm a) st fun b hb => (d.hot b hb).1, d.nd, fun b hb => ⟨a.keep b (d.hot b hb).1 (d.hot b hb).2, fun i hi => ?_⟩⟩
  rcases a.env i b hi with ⟨j, q⟩ | q
  · exact (d.hot b hb).2 j q
  · obtain ⟨zs, z, _⟩ := d.hl.lists b hb
    rw [z] at q
    cases q
end
end Y
namespace Y
open PySem L2 PyProof.Rows
end Y
namespace PySem
namespace YG
open PySem.W PySem.Calls PyProof.Rows PySem.HandSPX
end YG
end PySem
namespace Y
open PySem PySem.Spec PySem.YG PyProof.Rows L2
/-- what the written part says of an own exception class -/
structure XC (K : PySem.W.Frag) (C : Addr) (nw : String) (tl : List Value) : Prop where
  cls : ∃ nm q N bs sn sub ab col dd k0 k1 k2 k3 k5, K.lookup C = some (excClassObj nm q C N bs tl true sn sub ab col dd k0 k1 k2 k3 k5 nw)
  sa : PySem.W.findIn K (.ref C) "__setattr__" = some (some (.builtin "object.__setattr__"))
  exC : PySem.W.subIn K (.ref C) (.type "BaseException") = some true
  tyC : PySem.W.typeIn K (.ref C) = some (.type "type")
  kC : PySem.W.keepIn K (.ref C) = true
theorem XC.data {K : PySem.W.Frag} {C : Addr} {nw : String} {tl : List Value} (T : XC K C nw tl) : ∃ cd, PySem.W.clsIn K C = some cd ∧ cd.mro = .ref C :: tl ∧ cd.hasDict = true := by
  obtain ⟨nm, q, N, bs, sn, sub, ab, col, dd, k0, k1, k2, k3, k5, hC⟩ := T.cls
  exact ⟨{ name := nm, bases := bs, mro := .ref C :: tl, ns := N, qualname := q, hasDict := true, slotNames := sn, subclasses := sub, abstract := ab, collection := col, hasDel := false },
    by unfold PySem.W.clsIn; rw [hC] <;> rfl, rfl, rfl⟩
section
variable {X : Cx} {cl : Str → Addr} {W : WX} {io : Bool}
def sRaise1 (c f : Str) (m : Ev → Ou Vl) : Ev → So := fun r => match m r with
  | .ok (x, _) r' => if x.flat then .ex c [(f, x)] r' else .no
  | .ex c' fs r' => .ex c' fs r'
  | .no => .no
def sRaise0 (c : Str) : Ev → So := fun r => .ex c [] r
end
end Y
open PySem PySem.Spec PySem.Calls PyProof.Rows PySem.W
namespace PySem.YG
end PySem.YG
namespace Y
open PySem PySem.Spec PySem.YG PyProof.Rows L2
section
variable {K : PySem.W.Frag} {M M' : Addr → Prop} {H H' : Hp} {G G' : Nat → List Addr} {r r' : Ev} {σ : L2.St}
/-- a slot of which nothing is known is given any value -/
theorem ER.any {i : Nat} {v : Option V} (e : ER K r σ G M H) (h : ∀ x m, r[i]? ≠ some (some (x, m))) : ER K r (σ.set i v) G M H := by
  refine ⟨by simp [e.len], fun k x m hk => ?_, e.emp, e.nd, e.dj, e.sub, e.hot, e.tab⟩
  have ne : k ≠ i := fun z => h x m (z ▸ hk)
  obtain ⟨w, h1, h2⟩ := e.at_ k x m hk
  exact ⟨w, by rw [List.getElem?_set_ne (Ne.symm ne)]; exact h1, h2⟩
/-- a new thing that is no list -/
theorem ER.new {a : Addr} {o : HO} (e : ER K r σ G M H) (ha : H a = none) : ER K r σ G M (upd H a o) ∧ Evo H M G (upd H a o) M G [] :=
  ⟨e.evoF (fun b u hb _ => by rw [upd_ne (ne_of_none hb ha)]; exact hb) (fun b z => .inl z) (fun i b hb => e.sub i b hb) fun b z => by
      obtain ⟨xs, q, ho⟩ := e.hot b z
      exact ⟨xs, by rw [upd_ne (ne_of_none q ha)]; exact q, ho⟩,
    ⟨fun b u hb _ => by rw [upd_ne (ne_of_none hb ha)]; exact hb, fun b hb => by
      by_cases h1 : b = a
      · rw [h1, upd_same] at hb; cases hb
      · rwa [upd_ne h1] at hb, fun b z => .inl z, fun b z _ => z, fun i b hb => .inl ⟨i, hb⟩, fun _ z => nomatch z⟩⟩
end
end Y
namespace Y
open PySem PySem.Spec PySem.YG PyProof.Rows L2
/-- what an own exception class must say -/
structure XI (K : PySem.W.Frag) (C : Addr) : Prop where
  ga : PySem.W.findIn K (.ref C) "__getattribute__" = some (some (.builtin "BaseException.__getattribute__"))
  gg : PySem.W.findIn K (.ref C) "__getattr__" = some none
  sb : PySem.W.subIn K (.ref C) (.type "BaseException") = some true
  hd : PySem.W.hasDictIn K C = true
  ha : PySem.W.findIn K (.ref C) "__class__" = some (some (.builtin "object.__class__"))
  hn : PySem.W.specialIn K (.builtin "object.__class__") "__get__" = some (some (.builtin "getset_descriptor.__get__"))
  ht : PySem.W.takesIn K (.builtin "object.__class__") = some true
  hm : PySem.W.mroIn K C (.type "object") = some true
theorem XI.cls {K : PySem.W.Frag} {C : Addr} (T : XI K C) : (PySem.W.clsIn K C).isSome = true := by
  obtain ⟨cd, hc, _⟩ := PySem.W.any_some T.hd
  rw [hc]; rfl
/-- where an exception stands, and its dict -/
def XAt (H : Hp) (a C : Addr) : Prop := ∃ d, H a = some (exk a C d) ∧ (d = none ∨ ∃ dx fs, d = some dx ∧ H dx = some (.xd fs))
/-- which classes of exceptions are of these -/
def fIsc (tb : List (Str × Bool)) : List Dt → Option Vl
  | [.n] => some (.b false, .c)
  | [.x c _ _] => (tb.lookup c).map fun b => (.b b, .c)
  | _ => none
section
variable {K : PySem.W.Frag} {cl : Str → Addr} {us : List Value} {cs : List V} {tb : List (Str × Bool)}
theorem XAt.new {H : Hp} {a C p : Addr} {o : HO} (h : XAt H a C) (hp : H p = none) : XAt (upd H p o) a C := by
  obtain ⟨d, h1, h2⟩ := h
  refine ⟨d, by rw [upd_ne (ne_of_none h1 hp)]; exact h1, h2.imp id fun ⟨dx, fs, e, h3⟩ => ⟨dx, fs, e, ?_⟩⟩
  rw [upd_ne (ne_of_none h3 hp)]; exact h3
end
/-- names of classes, as values -/
inductive ClE (X : Cx) : Expr → V → Value → Prop
  | own {x : Str} {C : Addr} {p : Pos} : Gl X x → X.mg x = some (.ref C) → (x == ("__debug__" : Str)) = false → ClE X (.Name x p) (.ref C) (.ref C)
  | bt {x : Str} {n : String} {p : Pos} : Gl X x → X.mg x = none → bootBuiltins x = some (.type n) → x ≠ "__name__" → (x == ("__debug__" : Str)) = false → ClE X (.Name x p) (.ty n) (.type n)
inductive ClEs (X : Cx) : List Expr → List V → List Value → Prop
  | nil : ClEs X [] [] []
  | cons {e : Expr} {v : V} {u : Value} {es : List Expr} {vs : List V} {us : List Value} : ClE X e v u → starEach (e :: es) X.env = (false, eval e X.env) :: starEach es X.env → ClEs X es vs us → ClEs X (e :: es) (v :: vs) (u :: us)
def tCs : List V → TA
  | [] => tNil
  | v :: vs => tCons (tC v) (tCs vs)
section
variable {X : Cx} {cl : Str → Addr} {W : WX} {e t : Expr} {A : Am} {tb : List (Str × Bool)}
theorem ClE.pe {v : V} {u : Value} (h : ClE X e v u) : PE X e (tC v) ∧ ClsV v u := by
  cases h with
  | own a b c => exact ⟨pe_glob a b (show RelV (.ref _) (.ref _) from rfl) c, .own _⟩
  | bt a b c d f => exact ⟨pe_bltn a b c (show RelV (.ty _) (.type _) from rfl) d f, .ty _⟩
theorem ClEs.pa {es : List Expr} {vs : List V} {us : List Value} (h : ClEs X es vs us) : PA X es (tCs vs) ∧ Paired ClsV vs us := by
  induction h with
  | nil => exact ⟨pa_nil, .nil⟩
  | cons a b c ih => exact ⟨pa_cons a.pe.1 ih.1 b, .cons a.pe.2 ih.2⟩
end
/-- where a class stands, by its name -/
def clK (K : PySem.W.Frag) (c : Str) : Addr := match PySem.W.nsIn K mainGlobals c with
  | some (some (.ref C)) => C
  | _ => 0
end Y
namespace Y
open PySem L2 PyProof.Rows
section
variable {X : Cx} {K : PySem.W.Frag} {cl : Str → Addr} {W : WX}
def fLr1 : List Dt → Option Vl
  | [.i n] => if -(2 ^ 60) ≤ n ∧ n ≤ LIM then some (.l (rngD 0 n.toNat), .t) else none
  | _ => none
def fLr2 : List Dt → Option Vl
  | [.i a, .i b] => if -(2 ^ 60) ≤ a ∧ a ≤ 2 ^ 60 ∧ -(2 ^ 60) ≤ b ∧ b ≤ 2 ^ 60 ∧ b - a ≤ LIM then some (.l (rngD a (b - a).toNat), .t) else none
  | _ => none
end
def tru : Dt → Option Bool
  | .n => some false
  | .b k => some k
  | .i z => some (z != 0)
  | .t xs => some (!xs.isEmpty)
  | .l xs => some (!xs.isEmpty)
  | _ => none
section
variable {X : Cx} {cl : Str → Addr} {W : WX} {K : PySem.W.Frag} {M : Addr → Prop} {H : Hp}
theorem CoL.emp {vs : List V} {xs : List Dt} (h : CoL K M H vs xs) : (!xs.isEmpty) = !vs.isEmpty := by
  cases h <;> rfl
def mOrT (f g : Ev → Ou Vl) : Ev → Ou Vl := fun r => match f r with
  | .ok (x, _) r' => match tru x with
    | some true => .ok (x, .c) r'
    | some false => g r'
    | none => .no
  | .ex c fs r' => .ex c fs r'
  | .no => .no
end
end Y
namespace Y
open PySem L2 PyProof.Rows
end Y
namespace Y
open PySem L2 PyProof.Rows
end Y
namespace Y
open PySem L2 PyProof.Rows
section
variable {X : Cx} {K : PySem.W.Frag} {cl : Str → Addr} {W : WX}
/-- H and the new pairs, one behind another -/
inductive ZUp (H0 : Hp) : List (V × V) → Hp → List V → Prop
  | nil : ZUp H0 [] H0 []
  | snoc {ps : List (V × V)} {H : Hp} {vs : List V} {T : Addr} {x y : V} : ZUp H0 ps H vs → H T = none → ZUp H0 (ps ++ [(x, y)]) (upd H T (.tup [x, y])) (vs ++ [.ref T])
theorem ZUp.len {H0 H : Hp} {ps : List (V × V)} {vs : List V} (h : ZUp H0 ps H vs) : vs.length = ps.length := by
  induction h with
  | nil => rfl
  | snoc _ _ ih => simp [ih]
theorem ZUp.sub {H0 H : Hp} {ps : List (V × V)} {vs : List V} (h : ZUp H0 ps H vs) : ∀ b o, H0 b = some o → H b = some o := by
  induction h with
  | nil => exact fun _ _ e => e
  | snoc _ hn ih => exact fun b o e => by rw [upd_ne fun z => by have := ih b o e; rw [z, hn] at this; cases this]; exact ih b o e
/-- where the walk over both stands -/
def ZSt (h : Heap) (z TI TO i1 i2 l1 l2 S : Addr) (i : Nat) : Prop := IsPair h TI (.ref i1) (.ref i2) ∧ h.IsListIter i1 l1 i ∧ h.IsListIter i2 l2 i ∧
  ((IsZip h z TI TO .none ∧ ∃ a b, IsPair h TO a b) ∨ ∃ T f oT, IsZipHeld h z TI TO T f ∧ h.get? T = some oT ∧ T ≠ z ∧ T ≠ i1 ∧ T ≠ i2 ∧ T ≠ S)
theorem ZSt.keep {h h' : Heap} {z TI TO i1 i2 l1 l2 S : Addr} {i : Nat} (st : ZSt h z TI TO i1 i2 l1 l2 S i) (k : ∀ b o, b ≠ S → h.get? b = some o → h'.get? b = some o) (d1 : S ≠ z) (d2 : S ≠ TI) (d3 : S ≠ TO) (d4 : S ≠ i1) (d5 : S ≠ i2) : ZSt h' z TI TO i1 i2 l1 l2 S i := by
  obtain ⟨hTI, h1, h2, hz⟩ := st
  refine ⟨k _ _ (Ne.symm d2) hTI, h1.at fun o e => k _ o (Ne.symm d4) e, h2.at fun o e => k _ o (Ne.symm d5) e, ?_⟩
  rcases hz with ⟨hz, a, b, hTO⟩ | ⟨T, f, oT, hz, hT, r1, r2, r3, r4⟩
  · exact .inl ⟨k _ _ (Ne.symm d1) hz, a, b, k _ _ (Ne.symm d3) hTO⟩
  · exact .inr ⟨T, f, oT, k _ _ (Ne.symm d1) hz, k _ _ r4 hT, r1, r2, r3, r4⟩
/-- .. on data -/
def fLz : List Dt → Option Vl
  | [.l xs, .l ys] => if (zipD xs ys).length ≤ LIM then some (.l (zipD xs ys), .t) else none
  | _ => none
/-- the new pairs stand -/
def AtP (H : Hp) : List (V × V) → List V → Prop
  | [], [] => True
  | p :: ps, w :: ws => (∃ T, w = .ref T ∧ H T = some (.tup [p.1, p.2])) ∧ AtP H ps ws
  | _, _ => False
theorem AtP.mono {H H' : Hp} (k : ∀ b o, H b = some o → H' b = some o) : ∀ {ps : List (V × V)} {ws : List V}, AtP H ps ws → AtP H' ps ws
  | [], [], _ => trivial
  | _ :: _, _ :: _, ⟨⟨T, e, h⟩, r⟩ => ⟨⟨T, e, k _ _ h⟩, AtP.mono k r⟩
  | [], _ :: _, h => h.elim
  | _ :: _, [], h => h.elim
theorem AtP.snoc {H : Hp} {p : V × V} {w : V} (hw : ∃ T, w = .ref T ∧ H T = some (.tup [p.1, p.2])) : ∀ {ps : List (V × V)} {ws : List V}, AtP H ps ws → AtP H (ps ++ [p]) (ws ++ [w])
  | [], [], _ => ⟨hw, trivial⟩
  | _ :: _, _ :: _, ⟨h, r⟩ => ⟨h, AtP.snoc hw r⟩
  | [], _ :: _, h => h.elim
  | _ :: _, [], h => h.elim
theorem ZUp.at {H0 H : Hp} {ps : List (V × V)} {vs : List V} (h : ZUp H0 ps H vs) : AtP H ps vs := by
  induction h with
  | nil => exact trivial
  | @snoc ps H vs T x y _ hn ih => exact AtP.snoc (p := (x, y)) ⟨T, rfl, upd_same⟩ (ih.mono (same_new hn))
theorem AtP.col {M : Addr → Prop} {H : Hp} : ∀ {us vs ws : List V} {xs ys : List Dt}, CoL K M H us xs → CoL K M H vs ys → AtP H (List.zip us vs) ws → CoL K M H ws (zipD xs ys)
  | [], vs, [], xs, ys, c1, c2, h => by cases c1; exact .nil
  | [], vs, _ :: _, xs, ys, c1, c2, h => h.elim
  | u :: us, [], [], xs, ys, c1, c2, h => by cases c1; cases c2; exact .nil
  | u :: us, [], _ :: _, xs, ys, c1, c2, h => h.elim
  | u :: us, v :: vs, [], xs, ys, c1, c2, h => h.elim
  | u :: us, v :: vs, w :: ws, xs, ys, c1, c2, ⟨⟨T, e, h⟩, r⟩ => by
    cases c1 with
    | cons a1 b1 =>
      cases c2 with
      | cons a2 b2 =>
        subst e
        exact .cons (.t (.inl (.inl h)) (.cons a1 (.cons a2 .nil))) (AtP.col b1 b2 r)
end
section
variable {X : Cx} {K : PySem.W.Frag} {cl : Str → Addr} {W : WX} {r : Ev} {G : Nat → List Addr} {M : Addr → Prop} {H H' : Hp} {σ : L2.St}
def mSlZ (A : Am) (lo hi : Option (Ev → Ou Vl)) : Ev → Ou Vl := fun r => match evA [A] r with
  | .ok ys r1 => match evP lo r1 with
    | .ok l r2 => match evP hi r2 with
      | .ok u r3 => match look r3 ys with
        | some [x] => match fSl l u x with
          | some (y, m) => .ok (y, m) (if zfl (y, m) then r3 else frz ys r3)
          | none => .no
        | _ => .no
      | .ex c fs r3 => .ex c fs r3
      | .no => .no
    | .ex c fs r2 => .ex c fs r2
    | .no => .no
  | .ex c fs r1 => .ex c fs r1
  | .no => .no
end
end Y
namespace Y
open PySem L2 PyProof.Rows
/-- put into a rising list, once -/
def insU (x : Int) : List Int → List Int
  | [] => [x]
  | y :: ys => if x < y then x :: y :: ys else if x = y then y :: ys else y :: insU x ys
/-- the unlike ones, rising -/
def ssrt (ns : List Int) : List Int := ns.foldr insU []
section
variable {X : Cx} {K : PySem.W.Frag}
def fLenSetD : List Dt → Option Vl
  | [.l xs] => match intsL xs with
    | some ns => if ns.length ≤ 4000 then some (.i (ssrt ns).length, .c) else none
    | none => none
  | _ => none
def fSrtSet : List Dt → Option Vl
  | [.t xs] => match intsL xs with
    | some ns => if ns.length < 64 then some (.l ((ssrt ns).map .i), .t) else none
    | none => none
  | _ => none
end
section
variable {X : Cx} {K : PySem.W.Frag} {cl : Str → Addr} {W : WX} {σ : L2.St} {H : Hp}
def mTIf (c f g : Ev → Ou Bool) : Ev → Ou Bool := fun r => match c r with
  | .ok true r' => f r'
  | .ok false r' => g r'
  | .ex c fs r' => .ex c fs r'
  | .no => .no
end
end Y
namespace L2
open PySem PySem.Spec PyProof.Rows
end L2
namespace Y
open PySem L2 PyProof.Rows
section
variable {X : Cx} {cl : Str → Addr} {W : WX} {K : PySem.W.Frag}
def fRevT : List Dt → Option Vl
  | [.t xs] => some (.t xs.reverse, .c)
  | _ => none
end
end Y
namespace PySem
open PySem PySem.Spec PyProof.Rows
end PySem
namespace L2
open PySem PySem.Spec PyProof.Rows
end L2
namespace Y
open PySem L2 PyProof.Rows
section
variable {K : PySem.W.Frag} {cl : Str → Addr} {W : WX} {io : Bool} {M M' M0 : Addr → Prop} {H H' H0 : Hp} {G G' G0 : Nat → List Addr} {r r' : Ev} {σ σ0 : L2.St}
/-- all given up -/
def coldE (r : Ev) : Ev := r.map fun o => o.map fun x => (x.1, .c)
def keyOf : Dt → Option Key
  | .i k => some (.inl k)
  | .s x => some (.inr x)
  | _ => none
def putD (kvs : List (Key × Dt)) (k : Key) (v : Dt) : List (Key × Dt) :=
  if (kvs.any fun kv => decide (kv.1 = k)) = true then kvs.map (fun kv => if kv.1 = k then (kv.1, v) else kv) else kvs ++ [(k, v)]
inductive PRk (K : PySem.W.Frag) (H : Hp) : List (Key × V) → List (Key × Dt) → Prop
  | nil : PRk K H [] []
  | cons {k : Key} {v : V} {y : Dt} {r : List (Key × V)} {s : List (Key × Dt)} : Ho K H v y [] → PRk K H r s → PRk K H ((k, v) :: r) ((k, y) :: s)
theorem PRk.stay (hb : ∀ b xs, Rd H b (.tup xs) → Rd H' b (.tup xs)) (hz : ∀ b o u, H b = some (.frz o u) → H' b = some (.frz o u)) {r : List (Key × V)} {s : List (Key × Dt)} (h : PRk K H r s) : PRk K H' r s := by
  induction h with
  | nil => exact .nil
  | cons q _ ih => exact .cons (q.stay hb hz fun b z => nomatch z) ih
theorem PRk.any {k : Key} {r : List (Key × V)} {s : List (Key × Dt)} (h : PRk K H r s) : (r.any fun kv => decide (kv.1 = k)) = s.any fun kv => decide (kv.1 = k) := by
  induction h with
  | nil => rfl
  | cons q _ ih => rw [List.any_cons, List.any_cons, ih]
theorem PRk.app {r r2 : List (Key × V)} {s s2 : List (Key × Dt)} (h : PRk K H r s) (h2 : PRk K H r2 s2) : PRk K H (r ++ r2) (s ++ s2) := by
  induction h with
  | nil => exact h2
  | cons q _ ih => exact .cons q ih
theorem PRk.put {k : Key} {v : V} {y : Dt} {r : List (Key × V)} {s : List (Key × Dt)} (h : PRk K H r s) (hv : Ho K H v y []) : PRk K H (putK r k v) (putD s k y) := by
  unfold putK putD
  rw [h.any]
  split
  · induction h with
    | nil => exact .nil
    | @cons k2 v2 y2 r s q t ih =>
      rename_i hx
      rw [List.map_cons, List.map_cons]
      have tail : PRk K H (r.map fun kv => if kv.1 = k then (kv.1, v) else kv) (s.map fun kv => if kv.1 = k then (kv.1, y) else kv) := by
        clear ih hx q
        induction t with
        | nil => exact .nil
        | @cons k3 v3 y3 r s q t ih =>
          rw [List.map_cons, List.map_cons]
          by_cases e : k3 = k
          · simp only [e, if_true]
            exact .cons hv ih
          · simp only [e, if_false]
            exact .cons q ih
      by_cases e : k2 = k
      · simp only [e, if_true]
        exact .cons hv tail
      · simp only [e, if_false]
        exact .cons q tail
  · exact h.app (.cons hv .nil)
/-- one item -/
def dcS (t : Vl → Ev → Option Ev) (c : Ev → Ou Bool) (kf vf : Ev → Ou Vl) (r0 : Ev) (x : Dt) : Option (Option (Key × Dt)) := match t (x, .c) r0 with
  | none => none
  | some r1 => match c r1 with
    | .ok false _ => some none
    | .ok true r2 => match kf r2 with
      | .ok (kd, _) r3 => match keyOf kd with
        | some k => match vf r3 with
          | .ok (y, _) _ => if y.flat = true then some (some (k, y)) else none
          | _ => none
        | none => none
      | _ => none
    | _ => none
def dcL (t : Vl → Ev → Option Ev) (c : Ev → Ou Bool) (kf vf : Ev → Ou Vl) (r0 : Ev) : List Dt → List (Key × Dt) → Option (List (Key × Dt))
  | [], acc => some acc
  | x :: xs, acc => match dcS t c kf vf r0 x with
    | none => none
    | some none => dcL t c kf vf r0 xs acc
    | some (some (k, y)) => dcL t c kf vf r0 xs (putD acc k y)
/-- a dict comprehension; nothing of the environment is owned behind it -/
def mDc (vs : List Nat) (s : Ev → Ou (List Dt)) (t : Vl → Ev → Option Ev) (c : Ev → Ou Bool) (kf vf : Ev → Ou Vl) : Ev → Ou Vl := fun r => match s r with
  | .ok xs r1 => if xs.length ≤ LIM then
      match dcL t c kf vf (wipeE (coldE r1) vs) xs [] with
      | some acc => .ok (.m (acc.map fun p => keyD p.1) (acc.map (·.2)), .c) (coldE r1)
      | none => .no
    else .no
  | .ex c fs r1 => .ex c fs r1
  | .no => .no
end
section
variable {X : Cx} {cl : Str → Addr} {W : WX} {K : PySem.W.Frag} {M : Addr → Prop} {H : Hp}
/-- min(d.values()), one entry -/
def fMinO : List Dt → Option Vl
  | [.m [_] [y]] => some (y, .c)
  | _ => none
end
end Y
namespace Y
open PySem L2 PyProof.Rows
end Y
namespace Y
open PySem L2 PyProof.Rows PySem.W
end Y
namespace L2
open PySem PySem.Spec PyProof.Rows
end L2
namespace Y
open PySem L2 PyProof.Rows
end Y
namespace Y
open PySem L2 PyProof.Rows
section
variable {X : Cx} {cl : Str → Addr} {W : WX} {K : PySem.W.Frag} {M : Addr → Prop} {H : Hp} {σ : L2.St}
/-- a variable read for the last time -/
def mVo (i : Nat) : Ev → Ou Vl := fun r => match r[i]? with
  | some (some x) => .ok x (r.set i none)
  | _ => .no
def mTupO (fs : List (Ev → Ou Vl)) : Ev → Ou Vl := fun r => match evH fs r with
  | .ok xs r1 => if xs.length ≤ LIM ∧ xs.all zfl = true then .ok (.t (xs.map (·.1)), .a) r1 else .no
  | .ex c fs r1 => .ex c fs r1
  | .no => .no
/-- an item of a tuple that owns it -/
def mIxA (f : Ev → Ou Vl) (k : Nat) : Ev → Ou Vl := fun r => match f r with
  | .ok (.t xs, .a) r1 => match xs[k]? with
    | some y => .ok (y, .a) r1
    | none => .no
  | .ok _ _ => .no
  | .ex c fs r1 => .ex c fs r1
  | .no => .no
theorem HoL.at_ {vs : List V} {xs : List Dt} {F : List Addr} (h : HoL K H vs xs F) : ∀ {k : Nat} {y : Dt}, xs[k]? = some y → ∃ v F', vs[k]? = some v ∧ Ho K H v y F' ∧ (∀ b ∈ F', b ∈ F) ∧ (F.Nodup → F'.Nodup) := by
  induction h using HoL.rec (motive_1 := fun _ _ _ _ => True) with
  | nil => intro k y e; simp at e
  | @cons v vs x xs F F' a b _ ih =>
    intro k y e
    cases k with
    | zero =>
      simp at e
      subst e
      exact ⟨v, F, rfl, a, fun b hb => List.mem_append_left _ hb, fun n => (List.nodup_append.mp n).1⟩
    | succ k =>
      obtain ⟨w, F2, h1, h2, h3, h4⟩ := ih (by simpa using e)
      exact ⟨w, F2, by simpa using h1, h2, fun b hb => List.mem_append_right _ (h3 b hb), fun n => h4 (List.nodup_append.mp n).2.1⟩
  | _ => trivial
end
end Y
namespace Y
open PySem L2 PyProof.Rows
end Y
namespace Y
open PySem L2 PyProof.Rows
section
variable {X : Cx} {cl : Str → Addr} {W : WX}
def ix2G (x z : Dt) (k : Int) (r1 : Ev) : Ou Vl := match z with
  | .i l => match getP x [k, l] with
    | some y => if y.flat = true then .ok (y, .c) r1 else .no
    | none => .no
  | _ => .no
def mIx2 (i : Nat) (f : Ev → Ou Vl) (j : Nat) : Ev → Ou Vl := fun r => match r[i]? with
  | some (some _) => match f r with
    | .ok (.i k, _) r1 => match r1[i]? with
      | some (some (x, _)) => match r1[j]? with
        | some (some (z, _)) => ix2G x z k r1
        | _ => .no
      | _ => .no
    | .ok _ _ => .no
    | .ex c fs r1 => .ex c fs r1
    | .no => .no
  | _ => .no
end
end Y
namespace Y
open PySem L2 PyProof.Rows
section
variable {K : PySem.W.Frag} {cl : Str → Addr} {W : WX} {io : Bool} {M M' : Addr → Prop} {H H' : Hp} {G G' : Nat → List Addr} {r r' : Ev} {σ : L2.St}
theorem PRk.ho {r : List (Key × V)} {s : List (Key × Dt)} (h : PRk K H r s) : HoL K H (r.map (·.2)) (s.map (·.2)) [] := by
  induction h with
  | nil => exact .nil
  | cons q _ ih => exact .cons (F := []) (F' := []) q ih
def dM (acc : List (Key × Dt)) : Dt := .m (acc.map fun p => keyD p.1) (acc.map (·.2))
def putM (ks vs : List Dt) (k : Key) (y : Dt) : List Dt × List Dt :=
  if (ks.any fun kd => decide (keyOf kd = some k)) = true then (ks, List.zipWith (fun kd v => if keyOf kd = some k then y else v) ks vs) else (ks ++ [keyD k], vs ++ [y])
def isM (i : Nat) (r : Ev) : Bool := match r[i]? with
  | some (some (.m _ _, .a)) => true
  | _ => false
/-- name[e] = v, the name's own dict; v flat -/
def tgD (i : Nat) (f : Ev → Ou Vl) : Vl → Ev → Option Ev := fun y r => if isM i r then
    match f r with
    | .ok (kd, _) r1 => match r1[i]? with
      | some (some (.m ks vs, .a)) => match keyOf kd with
        | some k => if y.1.flat = true ∧ ks.length < LIM then some (r1.set i (some (.m (putM ks vs k y.1).1 (putM ks vs k y.1).2, .a))) else none
        | none => none
      | _ => none
    | _ => none
  else none
end
section
variable {X : Cx} {cl : Str → Addr} {W : WX} {io : Bool}
theorem u1 {A : Around} {k : Nat} (hr : Room k A) : A.units + 1 < cLine := by have := hr.un; omega
/-- {} -/
def mDNew : Ev → Ou Vl := fun r => .ok (dM [], .a) r
end
end Y
namespace Y
open PySem L2 PyProof.Rows
section
variable {K : PySem.W.Frag} {cl : Str → Addr} {W : WX} {io : Bool} {M M' : Addr → Prop} {H H' : Hp} {G G' : Nat → List Addr} {r r' : Ev} {σ : L2.St}
def ownV (x : Dt) : Vl := (x, if x.flat = true then .c else .a)
def tgsO : List (Vl → Ev → Option Ev) → List Dt → Ev → Option Ev
  | [], [], r => some r
  | t :: ts, x :: xs, r => (t (ownV x) r).bind (tgsO ts xs)
  | _, _, _ => none
def tgTO (ts : List (Vl → Ev → Option Ev)) : Vl → Ev → Option Ev := fun x r => match x with
  | (.t xs, .a) => tgsO ts xs r
  | _ => none
end
end Y
namespace Y
open PySem L2 PyProof.Rows PySem.Spec
section
variable {kx vx ta ia tb ib : Expr} {fa fb : List Expr} {scope : Scope} {pos : Pos}
abbrev dc2 (kx vx ta ia tb ib : Expr) (fa fb : List Expr) (scope : Scope) (pos : Pos) : Expr := .DictComp kx vx [⟨ta, ia, fa, 0⟩, ⟨tb, ib, fb, 0⟩] scope pos
end
/-- what τ knows, σ knows -/
def Knows (τ σ : L2.St) : Prop := τ.length = σ.length ∧ ∀ (j : Nat) v, τ[j]? = some (some v) → σ[j]? = some (some v)
theorem knows_wipe (σ : L2.St) (vs : List Nat) : Knows (wipe σ vs) σ := ⟨wipe_length _ _, fun j v e => (wipe_some e).1⟩
theorem Knows.at {σ τ : L2.St} {vs : List Nat} (h : wipe σ vs = τ) : Knows τ σ := h ▸ knows_wipe σ vs
end Y
namespace Y
open PySem L2 PyProof.Rows
section
variable {K : PySem.W.Frag} {cl : Str → Addr} {W : WX} {M M' M1 M4 M5 M6 : Addr → Prop} {H H' H1 H4 H5 H6 : Hp} {G G' G1 G4 G5 G6 : Nat → List Addr} {r r' r4 r5 r6 : Ev} {σ σ' σ4 : L2.St}
/-- pairs into a dict, the environment goes along -/
def dcE (vs : List Nat) (t : Vl → Ev → Option Ev) (c : Ev → Ou Bool) (kf vf : Ev → Ou Vl) : List Dt → Ev → List (Key × Dt) → Ou (List (Key × Dt))
  | [], r, acc => .ok acc r
  | x :: xs, r, acc => match t (x, .c) r with
    | none => .no
    | some r1 => match c r1 with
      | .ok false r2 => dcE vs t c kf vf xs (wipeE r2 vs) acc
      | .ok true r2 => match kf r2 with
        | .ok (kd, _) r3 => match keyOf kd with
          | some k => match vf r3 with
            | .ok (y, _) r4 => if y.flat = true then dcE vs t c kf vf xs (wipeE r4 vs) (putD acc k y) else .no
            | _ => .no
          | none => .no
        | _ => .no
      | _ => .no
def dc2E (vs vs1 : List Nat) (t : Vl → Ev → Option Ev) (c : Ev → Ou Bool) (s1 : Ev → Ou (List Dt)) (t1 : Vl → Ev → Option Ev) (c1 : Ev → Ou Bool) (kf vf : Ev → Ou Vl) : List Dt → Ev → List (Key × Dt) → Ou (List (Key × Dt))
  | [], r, acc => .ok acc r
  | x :: xs, r, acc => match t (x, .c) r with
    | none => .no
    | some r1 => match c r1 with
      | .ok false r2 => dc2E vs vs1 t c s1 t1 c1 kf vf xs (wipeE r2 vs) acc
      | .ok true r2 => match s1 r2 with
        | .ok ys r3 => if acc.length + ys.length ≤ LIM then
            match dcE vs1 t1 c1 kf vf ys (wipeE r3 vs1) acc with
            | .ok acc1 r4 => dc2E vs vs1 t c s1 t1 c1 kf vf xs (wipeE r4 vs) acc1
            | _ => .no
          else .no
        | _ => .no
      | _ => .no
/-- the dict is its own -/
def mDc2 (vs vs1 : List Nat) (s : Ev → Ou (List Dt)) (t : Vl → Ev → Option Ev) (c : Ev → Ou Bool) (s1 : Ev → Ou (List Dt)) (t1 : Vl → Ev → Option Ev) (c1 : Ev → Ou Bool) (kf vf : Ev → Ou Vl) : Ev → Ou Vl := fun r => match s r with
  | .ok xs r1 => match dc2E vs vs1 t c s1 t1 c1 kf vf xs (wipeE r1 vs) [] with
    | .ok acc r2 => .ok (dM acc, .a) (rsE r1 vs r2)
    | _ => .no
  | .ex c fs r1 => .ex c fs r1
  | .no => .no
/-- a dict comprehension; the environment goes along, the dict is its own -/
def mDcE (vs : List Nat) (s : Ev → Ou (List Dt)) (t : Vl → Ev → Option Ev) (c : Ev → Ou Bool) (kf vf : Ev → Ou Vl) : Ev → Ou Vl := fun r => match s r with
  | .ok xs r1 => if xs.length ≤ LIM then match dcE vs t c kf vf xs (wipeE r1 vs) [] with
      | .ok acc r2 => .ok (dM acc, .a) (rsE r1 vs r2)
      | _ => .no
    else .no
  | .ex c fs r1 => .ex c fs r1
  | .no => .no
end
end Y
namespace Y
open PySem L2 PyProof.Rows PySem.Spec
end Y
namespace Y
open PySem L2 PyProof.Rows PySem.Spec
end Y
namespace Y
open PySem L2 PyProof.Rows
end Y
namespace L2
open PySem PySem.Spec PyProof.Rows
end L2
namespace Y
open PySem L2 PyProof.Rows
section
variable {X : Cx} {cl : Str → Addr} {W : WX} {K : PySem.W.Frag}
def fRev0T : List Dt → Option Vl
  | [.t xs] => some (.t (xs.drop 1).reverse, .c)
  | _ => none
end
end Y
namespace Y
open PySem L2 PyProof.Rows
def mPk (f : List Dt → Option Vl) (as : List Am) : Ev → Ou Vl := fun r => match evA as r with
  | .ok ys r1 => match look r1 ys with
    | some xs => match f xs with
      | some (x, m) => .ok (x, m) (if zfl (x, m) then r1 else frz ys r1)
      | none => .no
    | none => .no
  | .ex c fs r1 => .ex c fs r1
  | .no => .no
end Y
namespace L2
open PySem PySem.Spec PyProof.Rows
end L2
namespace Y
open PySem L2 PyProof.Rows
section
variable {X : Cx} {K : PySem.W.Frag}
def fSrtSetL : List Dt → Option Vl
  | [.l xs] => match intsL xs with
    | some ns => if ns.length < 64 then some (.l ((ssrt ns).map .i), .t) else none
    | none => none
  | _ => none
end
end Y
namespace Y
open PySem L2 PyProof.Rows
def putFD (f : Str) (x : Dt) : List Str → List Dt → List Dt
  | n :: ns, y :: ys => if n = f then x :: ys else y :: putFD f x ns ys
  | _, _ => [x]
def putFN (f : Str) : List Str → List Str
  | [] => [f]
  | n :: ns => if n = f then n :: ns else n :: putFN f ns
section
variable {K : PySem.W.Frag} {cl : Str → Addr} {W : WX} {io : Bool} {M M' : Addr → Prop} {H H' : Hp} {G G' : Nat → List Addr} {r r' : Ev} {σ : L2.St} {C : Addr} {c f : Str}
def tgF (i : Nat) (c f : Str) : Vl → Ev → Option Ev := fun y r => match r[i]? with
  | some (some (.o c' ns fs, .a)) => if c' = c ∧ zfl y = true ∧ ns.length < 900 then some (r.set i (some (.o c (putFN f ns) (putFD f y.1 ns fs), .a))) else none
  | _ => none
/-- name.f[name2] = v, v flat -/
def tgFD (i : Nat) (c f : Str) (j : Nat) : Vl → Ev → Option Ev := fun y r => match r[i]?, r[j]? with
  | some (some (.o c' ns fs, .a)), some (some (kd, _)) => match (ns.zip fs).lookup f, keyOf kd with
    | some (.m ks vs), some k => if c' = c ∧ y.1.flat = true ∧ ks.length < LIM then some (r.set i (some (.o c ns (putFD f (.m (putM ks vs k y.1).1 (putM ks vs k y.1).2) ns fs), .a))) else none
    | _, _ => none
  | _, _ => none
def dropM (k : Key) : List Dt → List Dt → List Dt × List Dt
  | kd :: ks, v :: vs => if keyOf kd = some k then dropM k ks vs else (kd :: (dropM k ks vs).1, v :: (dropM k ks vs).2)
  | _, _ => ([], [])
/-- del name.f[name2] -/
def sDelF (i : Nat) (c f : Str) (j : Nat) : Ev → So := fun r => match r[i]?, r[j]? with
  | some (some (.o c' ns fs, .a)), some (some (kd, _)) => match (ns.zip fs).lookup f, keyOf kd with
    | some (.m ks vs), some k => if c' = c ∧ (ks.any fun kd => decide (keyOf kd = some k)) = true then .nx (r.set i (some (.o c ns (putFD f (.m (dropM k ks vs).1 (dropM k ks vs).2) ns fs), .a))) else .no
    | _, _ => .no
  | _, _ => .no
end
end Y
namespace Y
open PySem L2 PyProof.Rows
def okO (i : Nat) (r : Ev) : Bool := (r.set i none).all flS
def mLendO (i : Nat) (f : Ev → Ou Vl) : Ev → Ou Vl := fun r => match r[i]? with
  | some (some (.o c ns fs, .a)) => match f (r.set i (some (.o c ns fs, .c))) with
    | .ok xm r' => if zfl xm && okO i r' && decide (i < r'.length) then .ok xm (r'.set i (some (.o c ns fs, .a))) else .ok xm r'
    | .ex c fs r' => .ex c fs r'
    | .no => .no
  | _ => f r
def fnMkO (c : Str) (fn : Fn) : Fn := fun xs => match fn ((.o c [] [], .a) :: xs) with
  | .rt (.n, _) z => .rt z (.n, .c)
  | .ex ce fs _ => .ex ce fs (.n, .c)
  | _ => .no
section
variable {P : Program} {w : World} {K : PySem.W.Frag} {mg : Str → Option Value} {base : Heap} {cl : Str → Addr}
theorem Rp.non {M : Addr → Prop} {H : Hp} {m : Md} {v : V} {F : List Addr} (h : Rp K M H m v .n F) : v = .non := by
  cases m with
  | c => cases h.1; rfl
  | t => obtain ⟨_, _, _, _, z, _⟩ := h; cases z
  | a => have h : Ho K H v .n F := h; cases h; rfl
end
def mMeI (c m : Str) (fn : Fn) (i : Nat) (as : List Am) : Ev → Ou Vl := fun r => match r[i]? with
  | some (some (x, _)) => if isO c m x then mCI fn i as r else .no
  | _ => .no
end Y
namespace Y
open PySem L2 PyProof.Rows
section
variable {K : PySem.W.Frag} {cl : Str → Addr} {W : WX} {io : Bool} {M M' : Addr → Prop} {H H' : Hp} {G G' : Nat → List Addr} {r r' : Ev} {σ : L2.St} {C : Addr} {c f : Str}
/-- what was cold stays as it was -/
def coldS : Option Vl → Bool
  | some (_, .c) => true
  | _ => false
def mixE (r r' : Ev) : Ev := List.zipWith (fun o o' => if coldS o = true then o else o') r r'
def okX (i : Nat) (r r' : Ev) : Bool := ((List.zipWith (fun o o' => coldS o || flS o') r r').set i true).all id
/-- name.f.append(v), v flat -/
def sFApp (i : Nat) (c f : Str) (g : Ev → Ou Vl) : Ev → So := fun r => match r[i]? with
  | some (some (.o c' ns fs, .a)) => match (ns.zip fs).lookup f with
    | some (.l xs) => match g (r.set i (some (.o c' ns fs, .c))) with
      | .ok (y, m) r' => if c' = c ∧ y.flat = true ∧ okX i r r' = true ∧ i < (mixE r r').length ∧ xs.length < LIM then .nx ((mixE r r').set i (some (.o c' ns (putFD f (.l (xs ++ [y])) ns fs), .a))) else .no
      | _ => .no
    | _ => .no
  | _ => .no
/-- name.f.pop() -/
def sFPop (i : Nat) (c f : Str) : Ev → So := fun r => match r[i]? with
  | some (some (.o c' ns fs, .a)) => match (ns.zip fs).lookup f with
    | some (.l xs) => if c' = c ∧ xs ≠ [] then .nx (r.set i (some (.o c' ns (putFD f (.l xs.dropLast) ns fs), .a))) else .no
    | _ => .no
  | _ => .no
end
section
variable {X : Cx} {cl : Str → Addr} {W : WX} {io : Bool} {C : Addr} {c f : Str}
def sFin (g k : Ev → So) : Ev → So := fun r => match g r with
  | .nx r1 => match k r1 with
    | .nx r2 => .nx r2
    | _ => .no
  | _ => .no
end
end Y
namespace Y
open PySem L2 PyProof.Rows
/-- enumerate(xs, k) -/
def sEnumK : List Dt → Option (List Dt)
  | [.l xs, .i k] => if -(2 ^ 60) ≤ k ∧ k ≤ 2 ^ 60 then some (enumD k xs) else none
  | [.t xs, .i k] => if -(2 ^ 60) ≤ k ∧ k ≤ 2 ^ 60 then some (enumD k xs) else none
  | _ => none
end Y
namespace Y
open PySem L2 PyProof.Rows
/-- these are lists with that in them -/
inductive LsL (H : Hp) : List V → List (List V) → Prop
  | nil : LsL H [] []
  | cons {a : Addr} {us : List V} {vs : List V} {uss : List (List V)} : H a = some (.lst us) → LsL H vs uss → LsL H (.ref a :: vs) (us :: uss)
theorem LsL.len {H : Hp} {vs : List V} {uss : List (List V)} (h : LsL H vs uss) : vs.length = uss.length := by
  induction h with
  | nil => rfl
  | cons _ _ ih => simp [ih]
theorem LsL.at {H : Hp} {vs : List V} {uss : List (List V)} (h : LsL H vs uss) : ∀ {i : Nat} {us : List V}, uss[i]? = some us → ∃ a, vs[i]? = some (.ref a) ∧ H a = some (.lst us) := by
  induction h with
  | nil => intro i us e; simp at e
  | @cons a us0 vs uss h0 _ ih =>
    intro i us e
    cases i with
    | zero =>
      simp only [List.getElem?_cons_zero, Option.some.injEq] at e
      subst e
      exact ⟨a, rfl, h0⟩
    | succ i => simpa using ih (i := i) (by simpa using e)
/-- .. on data -/
def listsD : List Dt → Option (List (List Dt))
  | [] => some []
  | .l xs :: r => (listsD r).map (xs :: ·)
  | _ => none
def fSumL : List Dt → Option Vl
  | [.l xs, .l []] => match listsD xs with
    | some ys => if ys.flatten.length ≤ LIM then some (.l ys.flatten, .c) else none
    | none => none
  | _ => none
end Y
namespace Y
open PySem L2 PyProof.Rows
section
variable {X : Cx} {K : PySem.W.Frag} {cl : Str → Addr} {W : WX}
/-- {k: v, ..} of constants, at most fifteen; an own dict -/
def mDDisp (ps : List (Key × Dt)) : Ev → Ou Vl := fun r => .ok (dM (ps.foldl (fun acc kv => putD acc kv.1 kv.2) []), .a) r
end
end Y
namespace Y
open PySem L2 PyProof.Rows
end Y
namespace Y
open PySem L2 PyProof.Rows
/-- truths, the true ones first -/
def srtB (bs : List Bool) : List Bool := List.replicate (bs.count true) true ++ List.replicate (bs.count false) false
section
variable {X : Cx} {K : PySem.W.Frag} {cl : Str → Addr} {W : WX}
/-- .. on data -/
def fSrtB : List Dt → Option Vl
  | [.l xs] => match blsL xs with
    | some bs => some (.l ((srtB bs).map .b), .t)
    | none => none
  | _ => none
end
end Y
namespace Y
open PySem L2 PyProof.Rows
end Y
namespace Y
open PySem L2
end Y
namespace Y
open PySem L2 PyProof.Rows
end Y
namespace Y
open PySem L2 PyProof.Rows
end Y
namespace Y
open PySem L2 PyProof.Rows
mutual
/-- v is the key n -/
inductive NkAt (K : PySem.W.Frag) (H : Hp) : V → NestedKey → Prop
  | num (x : Int) : NkAt K H (.int x) (.num x)
  | tup {a : Addr} {vs : List V} {ns : List NestedKey} : SqT K H a vs → NkL K H vs ns → NkAt K H (.ref a) (.tup ns)
inductive NkL (K : PySem.W.Frag) (H : Hp) : List V → List NestedKey → Prop
  | nil : NkL K H [] []
  | cons {v : V} {vs : List V} {n : NestedKey} {ns : List NestedKey} : NkAt K H v n → NkL K H vs ns → NkL K H (v :: vs) (n :: ns)
end
/-- fit to stand as a key -/
def NkT (K : PySem.W.Frag) (H : Hp) (v : V) (n : NestedKey) : Prop := ∃ p, v = .ref p ∧ NkAt K H v n ∧ n.depth ≤ 8
section
variable {X : Cx} {K : PySem.W.Frag} {M : Addr → Prop} {H H' : Hp} {pins : List (Addr × Obj)} {σ : L2.St} {s : Shared}
mutual
theorem NkAt.is (I : Inv X pins σ H s) : ∀ {v : V} {n : NestedKey} {u : Value}, NkAt X.K H v n → RelV v u → NestedIs s.heap n u
  | _, _, u, .num x, r => by
    obtain ⟨t, rfl⟩ : ∃ t, u = Value.int x t := r
    exact .int _ _
  | _, _, u, .tup h q, r => by
    obtain rfl : u = Value.ref _ := r
    obtain ⟨its, rv, ⟨o, e1, e2, e3⟩, _⟩ := I.tuple h
    obtain ⟨n, e3⟩ := e3
    exact .tup e1 e2 e3 (by rw [List.toList_toArray]; exact NkL.is I q rv)
theorem NkL.is (I : Inv X pins σ H s) : ∀ {vs : List V} {ns : List NestedKey} {us : List Value}, NkL X.K H vs ns → Vals vs us → NestedAll s.heap ns us
  | _, _, _, .nil, r => by cases r; exact .nil
  | _, _, _, .cons h q, r => by
    cases r with
    | cons r1 r2 => exact .cons (NkAt.is I h r1) (NkL.is I q r2)
end
mutual
theorem NkAt.hash {w : World} : ∀ {v : V} {n : NestedKey}, NkAt K H v n → NestedKey.hash w n = hsN n
  | _, _, .num x => rfl
  | _, _, .tup h q => by rw [NestedKey.hash, hsN, NkL.hash q]
theorem NkL.hash {w : World} : ∀ {vs : List V} {ns : List NestedKey}, NkL K H vs ns → NestedKey.hashes w ns = hsNs ns
  | _, _, .nil => rfl
  | _, _, .cons h q => by rw [NestedKey.hashes, hsNs, NkAt.hash h, NkL.hash q]
end
/-- a dict by its entries -/
def KD (K : PySem.W.Frag) (H : Hp) (a : Addr) (es : List (NestedKey × Addr × V)) : Prop := Rd H a (ktO a es) ∧ ∀ e ∈ es, NkT K H (.ref e.2.1) e.1
abbrev KR : (NestedKey × Addr × V) → (NestedKey × Addr × Value) → Prop := fun p q => p.1 = q.1 ∧ p.2.1 = q.2.1 ∧ RelV p.2.2 q.2.2
theorem KR.mem {es : List (NestedKey × Addr × V)} {xs : List (NestedKey × Addr × Value)} (h : Paired KR es xs) {x : NestedKey × Addr × Value} (hx : x ∈ xs) : ∃ e ∈ es, KR e x := by
  induction h with
  | nil => nomatch hx
  | cons h1 _ ih =>
    rcases List.mem_cons.mp hx with rfl | hx
    · exact ⟨_, List.mem_cons_self, h1⟩
    · obtain ⟨e, h2, h3⟩ := ih hx
      exact ⟨e, List.mem_cons_of_mem _ h2, h3⟩
theorem KR.keys {es : List (NestedKey × Addr × V)} {xs : List (NestedKey × Addr × Value)} (h : Paired KR es xs) : xs.map (·.1) = es.map (·.1) := by
  induction h with
  | nil => rfl
  | cons h1 _ ih => rw [List.map_cons, List.map_cons, ih, h1.1]
theorem KD.heap {a : Addr} {es : List (NestedKey × Addr × V)} (I : Inv X pins σ H s) (D : KD X.K H a es) :
    (a == sysModules) = false ∧ es.length ≤ sizeLine ∧ (es.map (·.1)).Nodup ∧ ∃ xs, s.heap.DictOfH (nestedKind X.prog X.w) a xs ∧ Paired KR es xs := by
  obtain ⟨⟨h1, h2, h3, o, ents, ep, xs, e1, e2, e3, e4, e5⟩, _⟩ := D.1.ok I.hok
  refine ⟨h1, h2, h3, xs, ⟨o, ents, ep, e1, e2, e3, ?_, fun x hx => ?_, by rw [KR.keys e5]; exact h3⟩, e5⟩
  · rw [e4]
    refine List.map_congr_left fun x hx => ?_
    obtain ⟨e, he, r⟩ := KR.mem e5 hx
    obtain ⟨p, _, hk, _⟩ := D.2 e he
    show _ = (⟨NestedKey.hash X.w x.1, .ref x.2.1, x.2.2⟩ : DictEntry)
    rw [← r.1, NkAt.hash hk]
  · obtain ⟨e, he, r⟩ := KR.mem e5 hx
    obtain ⟨p, _, hk, hd⟩ := D.2 e he
    rw [← r.1, ← r.2.1]
    exact ⟨NkAt.is I hk rfl, hd⟩
def atV (es : List (NestedKey × Addr × V)) (n : NestedKey) : Option V := (es.find? fun e => decide (e.1 = n)).map (·.2.2)
theorem KR.at_ {es : List (NestedKey × Addr × V)} {xs : List (NestedKey × Addr × Value)} {n : NestedKey} (h : Paired KR es xs) : (atV es n = none ∧ atKey xs n = none) ∨ ∃ v p, atV es n = some v ∧ atKey xs n = some p ∧ RelV v p.2 := by
  induction h with
  | nil => exact .inl ⟨rfl, rfl⟩
  | @cons e x es xs h1 _ ih =>
    by_cases q : x.1 = n
    · exact .inr ⟨e.2.2, x.2, by simp [atV, h1.1, q], by simp [atKey, q], h1.2.2⟩
    · have q2 : ¬ e.1 = n := by rw [h1.1]; exact q
      simpa [atV, atKey, q, q2] using ih
def putNE (es : List (NestedKey × Addr × V)) (n : NestedKey) (p : Addr) (v : V) : List (NestedKey × Addr × V) :=
  if (atV es n).isSome then es.map (fun e => if e.1 = n then (e.1, e.2.1, v) else e) else es ++ [(n, p, v)]
theorem KR.put {es : List (NestedKey × Addr × V)} {xs : List (NestedKey × Addr × Value)} {n : NestedKey} {p : Addr} {v : V} {u : Value} (h : Paired KR es xs) (r : RelV v u) : Paired KR (putNE es n p v) (storedH xs n p u) := by
  have mp : Paired KR (es.map (fun e => if e.1 = n then (e.1, e.2.1, v) else e)) (xs.map (putAt n u)) := by
    induction h with
    | nil => exact .nil
    | @cons e x es xs h1 _ ih =>
      refine .cons ?_ ih
      unfold putAt
      show KR (if e.1 = n then (e.1, e.2.1, v) else e) _
      rw [h1.1]
      by_cases q : x.1 = n
      · rw [if_pos q, if_pos q]; exact ⟨rfl, h1.2.1, r⟩
      · rw [if_neg q, if_neg q]; exact h1
  have ap : Paired KR (es ++ [(n, p, v)]) (xs ++ [(n, p, u)]) := by
    clear mp
    induction h with
    | nil => exact .cons ⟨rfl, rfl, r⟩ .nil
    | cons h1 _ ih => exact .cons h1 ih
  unfold putNE
  rcases KR.at_ (n := n) h with ⟨z, e⟩ | ⟨v', q, z, e, rv⟩
  · rw [z, storedH_new e]; exact ap
  · rw [z, storedH_old e]; exact mp
end
end Y
namespace Y
open PySem L2 PyProof.Rows
def lookN : List Dt → List Dt → NestedKey → Option Dt
  | k :: ks, v :: vs, n => if keyN k = n then some v else lookN ks vs n
  | _, _, _ => none
section
variable {K : PySem.W.Frag} {M : Addr → Prop} {H : Hp}
/-- d[k] -/
def fKIx : List Dt → Option Vl
  | [.k ks vs, x] => if kyT x = true then (lookN ks vs (keyN x)).map fun y => (y, .c) else none
  | _ => none
/-- k in d -/
def fKIn : List Dt → Option Vl
  | [x, .k ks vs] => if kyT x = true then some (.b (lookN ks vs (keyN x)).isSome, .c) else none
  | _ => none
/-- k not in d -/
def fKNin : List Dt → Option Vl
  | [x, .k ks vs] => if kyT x = true then some (.b (!(lookN ks vs (keyN x)).isSome), .c) else none
  | _ => none
end
end Y
namespace Y
open PySem L2 PyProof.Rows
def isKs (i : Nat) (r : Ev) : Bool := match r[i]? with
  | some (some (.k _ _, _)) => true
  | _ => false
def mMk (p : List Dt → Option Vl) (i : Nat) (as : List Am) : Ev → Ou Vl := fun r => if isKs i r then mP p (.v i :: as) r else .no
section
variable {K : PySem.W.Frag} {cl : Str → Addr} {W : WX} {M : Addr → Prop} {H : Hp} {G : Nat → List Addr} {r : Ev} {σ : L2.St}
/-- d.get(k) -/
def fKGet : List Dt → Option Vl
  | [.k ks vs, x] => if kyT x = true then some ((lookN ks vs (keyN x)).getD .n, .c) else none
  | _ => none
/-- d.get(k, z) -/
def fKGet2 : List Dt → Option Vl
  | [.k ks vs, x, z] => if kyT x = true then some ((lookN ks vs (keyN x)).getD z, .c) else none
  | _ => none
end
end Y
namespace Y
open PySem L2 PyProof.Rows
section
variable {X : Cx} {K : PySem.W.Frag} {cl : Str → Addr} {W : WX} {M : Addr → Prop} {H : Hp} {G : Nat → List Addr} {r : Ev} {σ : L2.St}
/-- {} -/
def mKNew : Ev → Ou Vl := fun r => .ok (.k [] [], .a) r
/-- {k: a constant} -/
def mKD1 (f : Ev → Ou Vl) (y : Dt) : Ev → Ou Vl := fun r => match f r with
  | .ok (kd, _) r1 => if kyT kd = true then .ok (.k [kd] [y], .a) r1 else .no
  | _ => .no
end
end Y
namespace Y
open PySem L2 PyProof.Rows
def hasN (ks : List Dt) (kd : Dt) : Bool := ks.any fun k => decide (keyN k = keyN kd)
def putN (ks vs : List Dt) (kd y : Dt) : List Dt × List Dt :=
  if hasN ks kd = true then (ks, List.zipWith (fun k v => if keyN k = keyN kd then y else v) ks vs) else (ks ++ [kd], vs ++ [y])
section
variable {K : PySem.W.Frag} {cl : Str → Addr} {W : WX} {io : Bool} {M : Addr → Prop} {H : Hp} {G : Nat → List Addr} {r : Ev} {σ : L2.St}
def isK (i : Nat) (r : Ev) : Bool := match r[i]? with
  | some (some (.k _ _, .a)) => true
  | _ => false
/-- name[e] = v, the name's own dict, keyed by tuples; v flat -/
def tgK (i : Nat) (f : Ev → Ou Vl) : Vl → Ev → Option Ev := fun y r => if isK i r then
    match f r with
    | .ok (kd, _) r1 => match r1[i]? with
      | some (some (.k ks vs, .a)) => if kyT kd = true ∧ y.1.flat = true ∧ ks.length < LIM then some (r1.set i (some (.k (putN ks vs kd y.1).1 (putN ks vs kd y.1).2, .a))) else none
      | _ => none
    | _ => none
  else none
end
end Y
namespace Y
open PySem L2 PyProof.Rows
def fLenK : List Dt → Option Vl
  | [.k ks _] => if ks.length ≤ LIM then some (.i ks.length, .c) else none
  | _ => none
end Y
namespace Y
open PySem L2 PyProof.Rows
/-- name.setdefault(k, y) on its own -/
def setdN (ks vs : List Dt) (kd y : Dt) : List Dt × List Dt := if hasN ks kd = true then (ks, vs) else putN ks vs kd y
section
variable {X : Cx} {cl : Str → Addr} {W : WX} {io : Bool} {td ty tz : TE} {o e f : Expr} {apos cpos : Pos}
/-- name[i].setdefault(f, name[j]): statement -/
def sSetD (i j : Nat) (f : Ev → Ou Vl) : Ev → So := fun r => if isK i r then sWith f (fun kd r1 => match r1[i]?, r1[j]? with
    | some (some (.k ks vs, .a)), some (some (y, _)) => if kyT kd.1 = true ∧ y.flat = true ∧ ks.length < LIM then .nx (r1.set i (some (.k (setdN ks vs kd.1 y).1 (setdN ks vs kd.1 y).2, .a))) else .no
    | _, _ => .no) r else .no
end
end Y
namespace Y
open PySem L2 PyProof.Rows
section
variable {K : PySem.W.Frag} {cl : Str → Addr} {W : WX} {M M' : Addr → Prop} {H H' : Hp} {G : Nat → List Addr} {r r' : Ev} {σ : L2.St} {a : Addr} {es : List (NestedKey × Addr × V)} {od : Obj}
def kvD (ks vs : List Dt) : List Dt := List.zipWith (fun k v => .t [k, v]) ks vs
end
section
variable {X : Cx} {K : PySem.W.Frag} {cl : Str → Addr} {W : WX} {M M' : Addr → Prop} {H H' : Hp} {G G' : Nat → List Addr} {r r' : Ev} {σ : L2.St}
/-- for k in name (its own dict; given up) -/
def sKeys (i : Nat) : Ev → Ou (List Dt) := fun r => match r[i]? with
  | some (some (.k ks vs, .a)) => .ok ks (r.set i (some (.k ks vs, .c)))
  | _ => .no
/-- for k, v in name.items() -/
def sItems (i : Nat) : Ev → Ou (List Dt) := fun r => match r[i]? with
  | some (some (.k ks vs, .a)) => .ok (kvD ks vs) (r.set i (some (.k ks vs, .c)))
  | _ => .no
/-- for k, v in (an expression that hands back its own dict).items() -/
def sItemsE (f : Ev → Ou Vl) : Ev → Ou (List Dt) := fun r => match f r with
  | .ok (.k ks vs, .a) r1 => .ok (kvD ks vs) r1
  | .ex c fs r1 => .ex c fs r1
  | _ => .no
/-- for k in (an expression that hands back its own dict) -/
def sKeysE (f : Ev → Ou Vl) : Ev → Ou (List Dt) := fun r => match f r with
  | .ok (.k ks vs, .a) r1 => .ok ks r1
  | .ex c fs r1 => .ex c fs r1
  | _ => .no
end
end Y
namespace Y
open PySem L2 PyProof.Rows PySem.W PySem.Calls
section
variable {X : Cx} {K : PySem.W.Frag} {M M' : Addr → Prop} {H H' : Hp}
def fListKN : List Dt → Option Vl
  | [.k ks _] => if ks.length ≤ LIM then some (.l ks, .t) else none
  | _ => none
end
section
variable {X : Cx} {K : PySem.W.Frag} {M M' : Addr → Prop} {H H' : Hp}
mutual
theorem NkAt.up (h : ∀ b xs, Rd H b (.tup xs) → Rd H' b (.tup xs)) : ∀ {v : V} {n : NestedKey}, NkAt K H v n → NkAt K H' v n
  | _, _, .num x => .num x
  | _, _, .tup q r => .tup (q.elim (fun q => .inl (h _ _ q)) .inr) (NkL.up h r)
theorem NkL.up (h : ∀ b xs, Rd H b (.tup xs) → Rd H' b (.tup xs)) : ∀ {v : List V} {n : List NestedKey}, NkL K H v n → NkL K H' v n
  | _, _, .nil => .nil
  | _, _, .cons q r => .cons (NkAt.up h q) (NkL.up h r)
end
theorem KD.up {a : Addr} {es : List (NestedKey × Addr × V)} (h : ∀ b o, H b = some o → H' b = some o) (D : KD K H a es) : KD K H' a es := by
  have hr : ∀ {b : Addr} {u : HO}, Rd H b u → Rd H' b u := fun z => z.imp (h _ _) fun ⟨o, z⟩ => ⟨o, h _ _ z⟩
  refine ⟨hr D.1, fun e he => ?_⟩
  obtain ⟨p, e1, e2, e3⟩ := D.2 e he
  exact ⟨p, e1, NkAt.up (fun b xs z => hr z) e2, e3⟩
end
end Y
namespace Y
open PySem L2 PyProof.Rows
section
variable {X : Cx} {K : PySem.W.Frag}
def rLtD (K : PySem.W.Frag) : R2 := fun x y H Q => ∃ d e, Dp K H x d ∧ Dp K H y e ∧ PySem.W.alike d e = true ∧ d ≠ .none ∧ d.depth ≤ 60 ∧ Q (.bl (PySem.W.dataLt d e)) H
theorem op_ltD (hu : X.A.units + 64 < cLine) : OpR X (compareOp .Lt) (rLtD X.K) := by
  intro pins s σ H x y v u Q I rx ry h
  obtain ⟨d, e, hd, he, al, nn, dp, q⟩ := h
  obtain ⟨as, r1⟩ := Dp.reads I d x v hd rx
  obtain ⟨bs, r2⟩ := Dp.reads I e y u he ry
  exact PySem.W.lt_data r1 r2 al nn (by omega) ⟨.bl _, H, I, rfl, q⟩
def isNo : Dt → Bool
  | .n => true
  | _ => false
/-- x < y for data alike -/
noncomputable def fLtD : List Dt → Option Vl
  | [x, y] => if PySem.W.alike (toP x) (toP y) && !isNo x && decide ((toP x).depth ≤ 59) && decide ((toP y).depth ≤ 59) then some (.b (PySem.W.dataLt (toP x) (toP y)), .c) else none
  | _ => none
theorem toP_none {x : Dt} (h : isNo x = false) : toP x ≠ .none := fun e => by
  cases x <;> first | (simp [isNo] at h; done) | (simp [toP, badP] at e; done)
theorem pr_ltD : Pr K (ap2 (rLtD K)) fLtD := fun M H vs xs x m Q ht c hf k => by
  unfold fLtD at hf
  split at hf
  · split at hf
    · rename_i h
      cases hf
      simp only [Bool.and_eq_true, Bool.not_eq_true', decide_eq_true_eq] at h
      obtain ⟨⟨⟨h1, h2⟩, h3⟩, h4⟩ := h
      obtain ⟨v, w, rfl, c1, c2⟩ := c.two
      exact ⟨_, _, c1.dp (nob_dep _ h3), c2.dp (nob_dep _ h4), h1, toP_none h2, by omega, k _ _ _ (mk_c ht (.b _))⟩
    · cases hf
  · cases hf
end
end Y
namespace Y
open PySem L2 PyProof.Rows
def wE (f : Ev → Ou Vl) (r : Ev) (Q : Vl → Ev → Prop) : Prop := match f r with
  | .ok x r' => Q x r'
  | _ => False
def wT (f : Ev → Ou Bool) (r : Ev) (Q : Bool → Ev → Prop) : Prop := match f r with
  | .ok x r' => Q x r'
  | _ => False
def wI (f : Ev → Ou (List Dt)) (r : Ev) (Q : List Dt → Ev → Prop) : Prop := match f r with
  | .ok x r' => Q x r'
  | _ => False
def wS (g : Ev → So) (r : Ev) (Qn : Ev → Prop) (Qr : Vl → Ev → Prop) (Qb Qc : Ev → Prop) : Prop := match g r with
  | .nx r' => Qn r'
  | .rt x r' => Qr x r'
  | .bk r' => Qb r'
  | .ct r' => Qc r'
  | _ => False
def wA (as : List Am) (r : Ev) (Q : List Ag → Ev → Prop) : Prop := match evA as r with
  | .ok x r' => Q x r'
  | _ => False
def wO (o : Option Vl) (Q : Dt → Md → Prop) : Prop := match o with
  | some (x, m) => Q x m
  | none => False
def wL (o : Option (List Dt)) (Q : List Dt → Prop) : Prop := match o with
  | some x => Q x
  | none => False
def wG (o : Option (Option Vl)) (Q : Dt → Md → Prop) : Prop := match o with
  | some (some (x, m)) => Q x m
  | _ => False
def wK (o : Option Ev) (Q : Ev → Prop) : Prop := match o with
  | some r => Q r
  | none => False
def wFn (f : Fn) (xs : List Vl) (Q : Vl → Vl → Prop) : Prop := match f xs with
  | .rt x z => Q x z
  | _ => False
def wX (o : Option (Option Vl)) (P : Prop) (Q : Dt → Prop) : Prop := match o with
  | some (some (x, _)) => Q x
  | _ => P
/-- a slot given a value; then .. -/
def setK (r : Ev) (i : Nat) (o : Option Vl) (Q : Ev → Prop) : Prop := Q (r.set i o)
def wB (b : Bool) (P Q : Prop) : Prop := if b = true then P else Q
def frzK (ys : List Ag) (r : Ev) (Q : Ev → Prop) : Prop := Q (frz ys r)
def wZ (x : Dt) (ys : List Ag) (r : Ev) (Q : Ev → Prop) : Prop := Q (if x.flat then r else frz ys r)
def wM (x : Vl) (ys : List Ag) (r : Ev) (Q : Ev → Prop) : Prop := Q (if zfl x then r else frz ys r)
def isC : Option (Option Vl) → Bool
  | some (some (_, .c)) => true
  | some (some _) => false
  | _ => true
def allC : List Ag → Ev → Bool
  | [], _ => true
  | .d _ :: ys, r => allC ys r
  | .v i :: ys, r => isC r[i]? && allC ys r
theorem frz_c : ∀ {ys : List Ag} {r : Ev}, allC ys r = true → frz ys r = r
  | [], _, _ => rfl
  | .d _ :: ys, r, h => frz_c (ys := ys) h
  | .v i :: ys, r, h => by
    simp only [allC, Bool.and_eq_true] at h
    simp only [frz]
    cases e : r[i]? with
    | none => exact frz_c h.2
    | some o =>
      cases o with
      | none => exact frz_c h.2
      | some xm =>
        obtain ⟨x, m⟩ := xm
        have hm : m = .c := by
          have := h.1
          rw [e] at this
          cases m <;> simp [isC] at this ⊢
        subst hm
        have : r.set i (some (x, .c)) = r := by
          apply List.ext_getElem?
          intro j
          by_cases q : i = j
          · subst q; rw [List.getElem?_set_self (List.getElem?_eq_some_iff.mp e).1, e]
          · rw [List.getElem?_set_ne q]
        simp only [this]
        exact frz_c h.2
section
variable {f g : Ev → Ou Vl} {c d : Ev → Ou Bool} {s u : Ev → So} {r : Ev} {Q : Vl → Ev → Prop} {QT : Bool → Ev → Prop} {QI : List Dt → Ev → Prop} {Qn Qb Qc : Ev → Prop} {Qr : Vl → Ev → Prop} {QA : List Ag → Ev → Prop} {i n : Nat} {x : Dt} {m : Md} {as : List Am} {fn : Fn} {p : List Dt → Option Vl}
@[simp] theorem wO_some {Q : Dt → Md → Prop} : wO (some (x, m)) Q = Q x m := id rfl
@[simp] theorem wO_none {Q : Dt → Md → Prop} : wO none Q = False := id rfl
@[simp] theorem wL_some {Q : List Dt → Prop} {xs : List Dt} : wL (some xs) Q = Q xs := id rfl
@[simp] theorem wL_none {Q : List Dt → Prop} : wL none Q = False := id rfl
@[simp] theorem wG_some {Q : Dt → Md → Prop} : wG (some (some (x, m))) Q = Q x m := id rfl
@[simp] theorem wK_some {Q : Ev → Prop} : wK (some r) Q = Q r := id rfl
@[simp] theorem wK_none {Q : Ev → Prop} : wK none Q = False := id rfl
@[simp] theorem setK_0 {o o' : Option Vl} {Q : Ev → Prop} : setK (o' :: r) 0 o Q = Q (o :: r) := id rfl
@[simp] theorem setK_s {o o' : Option Vl} {Q : Ev → Prop} : setK (o' :: r) (i + 1) o Q = setK r i o fun r1 => Q (o' :: r1) := id rfl
@[simp] theorem wB_t {P Q : Prop} : wB true P Q = P := id rfl
@[simp] theorem wB_f {P Q : Prop} : wB false P Q = Q := by simp [wB]
@[simp] theorem wG_0 {Q : Dt → Md → Prop} : wG (some (x, m) :: r)[0]? Q = Q x m := id rfl
@[simp] theorem wG_s {Q : Dt → Md → Prop} {o : Option Vl} : wG (o :: r)[i + 1]? Q = wG r[i]? Q := id rfl
@[simp] theorem isC_0 : isC (some (x, .c) :: r)[0]? = true := id rfl
@[simp] theorem isC_1 : isC (some (x, .t) :: r)[0]? = false := id rfl
@[simp] theorem isC_2 : isC (some (x, .a) :: r)[0]? = false := id rfl
@[simp] theorem isC_s {o : Option Vl} : isC (o :: r)[i + 1]? = isC r[i]? := id rfl
@[simp] theorem allC_n : allC [] r = true := id rfl
@[simp] theorem allC_d {ys : List Ag} : allC (.d x :: ys) r = allC ys r := id rfl
@[simp] theorem allC_v {ys : List Ag} : allC (.v i :: ys) r = (isC r[i]? && allC ys r) := id rfl
@[simp] theorem frzK_n {Q : Ev → Prop} : frzK [] r Q = Q r := id rfl
@[simp] theorem frzK_d {Q : Ev → Prop} {ys : List Ag} : frzK (.d x :: ys) r Q = frzK ys r Q := id rfl
@[simp] theorem frzK_c {Q : Ev → Prop} {ys : List Ag} (h : allC ys r = true) : frzK ys r Q = Q r := by unfold frzK; rw [frz_c h]
theorem frzK_v {Q : Ev → Prop} {ys : List Ag} {o : Vl} (h : r[i]? = some (some o)) : frzK (.v i :: ys) r Q = setK r i (some (o.1, .c)) fun r1 => frzK ys r1 Q := by
  unfold frzK setK
  simp only [frz, h]
@[simp] theorem frzK_w {Q : Ev → Prop} {ys : List Ag} : frzK (.v i :: ys) r Q = wX r[i]? (frzK ys r Q) fun x => setK r i (some (x, .c)) fun r1 => frzK ys r1 Q := by
  unfold wX
  cases h : r[i]? with
  | none => unfold frzK; simp only [frz, h]
  | some o =>
    cases o with
    | none => unfold frzK; simp only [frz, h]
    | some o => exact frzK_v h
@[simp] theorem wX_0 {P : Prop} {Q : Dt → Prop} : wX (some (x, m) :: r)[0]? P Q = Q x := id rfl
@[simp] theorem wX_s {P : Prop} {Q : Dt → Prop} {o : Option Vl} : wX (o :: r)[i + 1]? P Q = wX r[i]? P Q := id rfl
@[simp] theorem wZ_c {Q : Ev → Prop} {ys : List Ag} (h : allC ys r = true) : wZ x ys r Q = Q r := by unfold wZ; rw [frz_c h, ite_self]
@[simp] theorem wZ_i {Q : Ev → Prop} {ys : List Ag} {a : Int} : wZ (.i a) ys r Q = Q r := id rfl
@[simp] theorem wZ_b {Q : Ev → Prop} {ys : List Ag} {a : Bool} : wZ (.b a) ys r Q = Q r := id rfl
@[simp] theorem wZ_u {Q : Ev → Prop} {ys : List Ag} {a : Str} : wZ (.s a) ys r Q = Q r := id rfl
@[simp] theorem wZ_n {Q : Ev → Prop} {ys : List Ag} : wZ .n ys r Q = Q r := id rfl
@[simp] theorem wZ_l {Q : Ev → Prop} {ys : List Ag} {xs : List Dt} : wZ (.l xs) ys r Q = frzK ys r Q := id rfl
@[simp] theorem wZ_t {Q : Ev → Prop} {ys : List Ag} {xs : List Dt} : wZ (.t xs) ys r Q = wB (flatL xs) (Q r) (frzK ys r Q) := by
  unfold wZ wB frzK
  simp only [Dt.flat]
  by_cases h : flatL xs = true <;> simp [h]
@[simp] theorem wM_c {Q : Ev → Prop} {ys : List Ag} {y : Vl} (h : allC ys r = true) : wM y ys r Q = Q r := by unfold wM; rw [frz_c h, ite_self]
@[simp] theorem wM_i {Q : Ev → Prop} {ys : List Ag} {a : Int} : wM (.i a, m) ys r Q = Q r := by cases m <;> exact id rfl
@[simp] theorem wM_b {Q : Ev → Prop} {ys : List Ag} {a : Bool} : wM (.b a, m) ys r Q = Q r := by cases m <;> exact id rfl
@[simp] theorem wM_u {Q : Ev → Prop} {ys : List Ag} {a : Str} : wM (.s a, m) ys r Q = Q r := by cases m <;> exact id rfl
@[simp] theorem wM_n {Q : Ev → Prop} {ys : List Ag} : wM (.n, m) ys r Q = Q r := by cases m <;> exact id rfl
@[simp] theorem wM_a {Q : Ev → Prop} {ys : List Ag} : wM (x, .a) ys r Q = Q r := by unfold wM zfl; simp
@[simp] theorem wM_lc {Q : Ev → Prop} {ys : List Ag} {xs : List Dt} : wM (.l xs, .c) ys r Q = frzK ys r Q := id rfl
@[simp] theorem wM_lt {Q : Ev → Prop} {ys : List Ag} {xs : List Dt} : wM (.l xs, .t) ys r Q = wB (flatL xs) (Q r) (frzK ys r Q) := by
  unfold wM wB frzK
  simp only [zfl]
  by_cases h : flatL xs = true <;> simp [h]
@[simp] theorem wM_tc {Q : Ev → Prop} {ys : List Ag} {xs : List Dt} : wM (.t xs, .c) ys r Q = wB (flatL xs) (Q r) (frzK ys r Q) := by
  unfold wM wB frzK
  simp only [zfl, Dt.flat]
  by_cases h : flatL xs = true <;> simp [h]
theorem wM_f {Q : Ev → Prop} {ys : List Ag} {y : Vl} (h : zfl y = true) : wM y ys r Q = Q r := by unfold wM; rw [if_pos h]
@[simp] theorem wLk_n {Q : List Dt → Prop} : wL (look r []) Q = Q [] := id rfl
@[simp] theorem wLk_d {Q : List Dt → Prop} {ys : List Ag} : wL (look r (.d x :: ys)) Q = wL (look r ys) fun xs => Q (x :: xs) := by
  unfold wL
  simp only [look]
  cases look r ys <;> rfl
@[simp] theorem wLk_v {Q : List Dt → Prop} {ys : List Ag} : wL (look r (.v i :: ys)) Q = wG r[i]? fun x _ => wL (look r ys) fun xs => Q (x :: xs) := by
  unfold wL wG
  simp only [look]
  cases r[i]? with
  | none => rfl
  | some o =>
    cases o with
    | none => rfl
    | some xm =>
      simp only
      cases look r ys <;> rfl
@[simp] theorem wA_nil : wA [] r QA = QA [] r := id rfl
@[simp] theorem wA_e : wA (.e f :: as) r QA = wE f r fun x r1 => wA as r1 fun ys r2 => QA (.d x.1 :: ys) r2 := by
  unfold wA wE
  simp only [evA]
  cases f r with
  | ok x r1 =>
    obtain ⟨x, m⟩ := x
    simp only
    cases evA as r1 <;> rfl
  | ex _ _ _ => rfl
  | no => rfl
@[simp] theorem wA_v : wA (.v i :: as) r QA = wG r[i]? fun _ _ => wA as r fun ys r2 => QA (.v i :: ys) r2 := by
  unfold wA wG
  simp only [evA]
  cases h : r[i]? with
  | none => rfl
  | some o =>
    cases o with
    | none => rfl
    | some xm => cases evA as r <;> rfl
@[simp] theorem wE_K : wE (mK x) r Q = Q (x, .c) r := id rfl
@[simp] theorem wE_V : wE (mV i) r Q = wG r[i]? fun x _ => wZ x [.v i] r (Q (x, .c)) := by
  unfold wE wG wZ
  simp only [mV, frz]
  cases h : r[i]? with
  | none => rfl
  | some o => cases o <;> rfl
@[simp] theorem wE_P : wE (mP p as) r Q = wA as r fun ys r1 => wL (look r1 ys) fun xs => wO (p xs) fun x m => wZ x ys r1 (Q (x, m)) := by
  unfold wE wA wL wO wZ
  simp only [mP]
  cases evA as r with
  | ok ys r1 =>
    simp only
    cases look r1 ys with
    | none => rfl
    | some xs =>
      simp only
      cases p xs <;> rfl
  | ex _ _ _ => rfl
  | no => rfl
@[simp] theorem wE_C : wE (mC fn as) r Q = wA as r fun ys r1 => wL (look r1 ys) fun xs => wFn fn (cold xs) fun x _ => wM x ys r1 (Q x) := by
  unfold wE wA wL wFn wM
  simp only [mC]
  cases evA as r with
  | ok ys r1 =>
    simp only
    cases look r1 ys with
    | none => rfl
    | some xs =>
      simp only
      cases fn (cold xs) with
      | rt x z => rfl
      | ex c fs z => by_cases q : flatF fs = true <;> simp [q]
      | no => rfl
  | ex _ _ _ => rfl
  | no => rfl
@[simp] theorem wE_CK {ps : List Nat} : wE (mCK fn ps as) r Q = wA as r fun ys r1 => wL (look r1 ys) fun xs => wFn fn (pick ps (.n, .c) (cold xs)) fun x _ => wM x ys r1 (Q x) := wE_C
@[simp] theorem wE_CI : wE (mCI fn i as) r Q = wA (.v i :: as) r fun ys r1 => wG r1[i]? fun x0 m0 => setK r1 i none fun r2 => wL (look r2 ys.tail) fun xs => wFn fn ((x0, m0) :: cold xs) fun x z => wB (zfl x && zfl z || allC ys.tail r2) (setK r2 i (some z) (Q x)) (frzK ys.tail r2 fun r3 => setK r3 i (some z) (Q x)) := by
  unfold wE setK wB frzK
  conv => rhs; unfold wA
  simp only [mCI]
  cases evA (.v i :: as) r with
  | ok ys r1 =>
    simp only
    cases h : r1[i]? with
    | none => rfl
    | some o =>
      cases o with
      | none => rfl
      | some xm =>
        obtain ⟨x0, m0⟩ := xm
        simp only [wG_some]
        cases look (r1.set i none) ys.tail with
        | none => rfl
        | some xs =>
          simp only [wL_some]
          unfold wFn
          cases fn ((x0, m0) :: cold xs) with
          | rt x z =>
            obtain ⟨x, m⟩ := x
            simp only
            by_cases q : (zfl (x, m) && zfl z) = true
            · simp [q]
            · by_cases q2 : allC ys.tail (r1.set i none) = true
              · simp only [q, q2, Bool.or_true, if_true, frz_c q2]; simp
              · simp [q, q2]
          | ex c fs z => by_cases q : (flatF fs && zfl z) = true <;> simp [q]
          | no => rfl
  | ex _ _ _ => rfl
  | no => rfl
@[simp] theorem wE_CM : wE (mCM fn f as) r Q = wE f r fun xm r1 => wA as r1 fun ys r2 => wL (look r2 ys) fun xs => wFn fn (xm :: cold xs) fun x z => wB (zfl x && zfl z || allC ys r2) (Q x r2) (frzK ys r2 (Q x)) := by
  unfold wE wB frzK
  simp only [mCM]
  cases f r with
  | ok xm r1 =>
    simp only
    unfold wA
    cases evA as r1 with
    | ok ys r2 =>
      simp only
      cases look r2 ys with
      | none => rfl
      | some xs =>
        simp only [wL_some]
        unfold wFn
        cases fn (xm :: cold xs) with
        | rt x z =>
          obtain ⟨x, m⟩ := x
          simp only
          by_cases q : (zfl (x, m) && zfl z) = true
          · simp [q]
          · by_cases q2 : allC ys r2 = true
            · simp only [q, q2, Bool.or_true, if_true, frz_c q2]; simp
            · simp [q, q2]
        | ex c fs z => by_cases q : (flatF fs && zfl z) = true <;> simp [q]
        | no => rfl
    | ex _ _ _ => rfl
    | no => rfl
  | ex _ _ _ => rfl
  | no => rfl
@[simp] theorem wE_If : wE (mIf c f g) r Q = wT c r fun b r1 => (b = true → wE f r1 Q) ∧ (b = false → wE g r1 Q) := by
  unfold wE wT
  simp only [mIf]
  cases c r with
  | ok b r1 => cases b <;> simp
  | ex _ _ _ => rfl
  | no => rfl
@[simp] theorem wE_And : wE (mAndV f g) r Q = wE f r fun x r1 => match x.1 with
    | .b k => (k = true → wE g r1 Q) ∧ (k = false → Q (.b false, .c) r1)
    | _ => False := by
  unfold wE
  simp only [mAndV]
  cases f r with
  | ok x r1 =>
    obtain ⟨x, m⟩ := x
    cases x with
    | b k => cases k <;> simp
    | _ => rfl
  | ex _ _ _ => rfl
  | no => rfl
@[simp] theorem wE_Or : wE (mOrV f g) r Q = wE f r fun x r1 => match x.1 with
    | .b k => (k = true → Q (.b true, .c) r1) ∧ (k = false → wE g r1 Q)
    | _ => False := by
  unfold wE
  simp only [mOrV]
  cases f r with
  | ok x r1 =>
    obtain ⟨x, m⟩ := x
    cases x with
    | b k => cases k <;> simp
    | _ => rfl
  | ex _ _ _ => rfl
  | no => rfl
@[simp] theorem wE_Not : wE (mNotV f) r Q = wE f r fun x r1 => match x.1 with
    | .b k => Q (.b (!k), .c) r1
    | _ => False := by
  unfold wE
  simp only [mNotV]
  cases f r with
  | ok x r1 =>
    obtain ⟨x, m⟩ := x
    cases x <;> rfl
  | ex _ _ _ => rfl
  | no => rfl
@[simp] theorem wE_Lc {own : Bool} {vs : List Nat} {q : Ev → Ou (List Dt)} {t : Vl → Ev → Option Ev} : wE (mLc own vs q t c f) r Q = wI q r fun xs r1 => xs.length ≤ LIM ∧ ∃ ys r2, lcL vs t c f own xs (wipeE r1 vs) [] = .ok ys r2 ∧ Q (.l ys, if own then .a else .t) (rsE r1 vs r2) := by
  unfold wE wI
  simp only [mLc]
  cases q r with
  | ok xs r1 =>
    simp only
    by_cases h : xs.length ≤ LIM
    · rw [if_pos h]
      cases e : lcL vs t c f own xs (wipeE r1 vs) [] with
      | ok ys r2 =>
        simp only [eq_iff_iff]
        exact ⟨fun z => ⟨h, ys, r2, rfl, z⟩, fun ⟨_, ys', r', h1, h2⟩ => by cases h1; exact h2⟩
      | ex _ _ _ => simp
      | no => simp
    · simp [h]
  | ex _ _ _ => rfl
  | no => rfl
/-- slices -/
def wP (o : Option (Ev → Ou Vl)) (r : Ev) (Q : Option Int → Ev → Prop) : Prop := match evP o r with
  | .ok x r' => Q x r'
  | _ => False
@[simp] theorem wP_none {Q : Option Int → Ev → Prop} : wP none r Q = Q none r := id rfl
@[simp] theorem wP_some {Q : Option Int → Ev → Prop} : wP (some f) r Q = wE f r fun x r1 => match x.1 with
    | .i k => Q (some k) r1
    | _ => False := by
  unfold wP wE
  simp only [evP]
  cases f r with
  | ok x r1 =>
    obtain ⟨x, m⟩ := x
    cases x <;> rfl
  | ex _ _ _ => rfl
  | no => rfl
@[simp] theorem wT_Te : wT (mTe f) r QT = wE f r fun x r1 => match x.1 with
    | .b k => QT k r1
    | _ => False := by
  unfold wT wE
  simp only [mTe]
  cases f r with
  | ok x r1 =>
    obtain ⟨x, m⟩ := x
    cases x <;> rfl
  | ex _ _ _ => rfl
  | no => rfl
@[simp] theorem wT_Not : wT (mNot c) r QT = wT c r fun k r1 => QT (!k) r1 := by
  unfold wT
  simp only [mNot]
  cases c r <;> rfl
@[simp] theorem wT_And : wT (mAnd c d) r QT = wT c r fun k r1 => (k = true → wT d r1 QT) ∧ (k = false → QT false r1) := by
  unfold wT
  simp only [mAnd]
  cases c r with
  | ok k r1 => cases k <;> simp
  | ex _ _ _ => rfl
  | no => rfl
@[simp] theorem wT_Or : wT (mOr c d) r QT = wT c r fun k r1 => (k = true → QT true r1) ∧ (k = false → wT d r1 QT) := by
  unfold wT
  simp only [mOr]
  cases c r with
  | ok k r1 => cases k <;> simp
  | ex _ _ _ => rfl
  | no => rfl
@[simp] theorem wT_Yes : wT mYes r QT = QT true r := id rfl
@[simp] theorem wI_S {q : List Dt → Option (List Dt)} : wI (mS q as) r QI = wA as r fun ys r1 => wL (look r1 ys) fun xs => wL (q xs) fun ds => frzK ys r1 (QI ds) := by
  unfold wI wA wL frzK
  simp only [mS]
  cases evA as r with
  | ok ys r1 =>
    simp only
    cases look r1 ys with
    | none => rfl
    | some xs =>
      simp only
      cases q xs <;> rfl
  | ex _ _ _ => rfl
  | no => rfl
@[simp] theorem wS_seq : wS (sSeq s u) r Qn Qr Qb Qc = wS s r (fun r1 => wS u r1 Qn Qr Qb Qc) Qr Qb Qc := by
  unfold wS
  simp only [sSeq]
  cases s r <;> rfl
@[simp] theorem wS_nx : wS sNx r Qn Qr Qb Qc = Qn r := id rfl
@[simp] theorem wS_bk : wS sBk r Qn Qr Qb Qc = Qb r := id rfl
@[simp] theorem wS_ct : wS sCt r Qn Qr Qb Qc = Qc r := id rfl
@[simp] theorem wS_no : wS sNo r Qn Qr Qb Qc = False := id rfl
@[simp] theorem wS_asg {t : Vl → Ev → Option Ev} : wS (sAsg f t) r Qn Qr Qb Qc = wE f r fun x r1 => wK (t x r1) Qn := by
  unfold wS wE
  simp only [sAsg, sWith]
  cases f r with
  | ok x r1 =>
    simp only
    cases h : t x r1 <;> simp
  | ex _ _ _ => rfl
  | no => rfl
@[simp] theorem wS_expr : wS (sExpr f) r Qn Qr Qb Qc = wE f r fun _ r1 => Qn r1 := by
  unfold wS wE
  simp only [sExpr, sWith]
  cases f r <;> rfl
@[simp] theorem wS_ret : wS (sRet f) r Qn Qr Qb Qc = wE f r Qr := by
  unfold wS wE
  simp only [sRet, sWith]
  cases f r <;> rfl
@[simp] theorem wS_retV : wS (sRetV i) r Qn Qr Qb Qc = wG r[i]? fun x m => setK r i none (Qr (x, m)) := by
  unfold wS wG setK
  simp only [sRetV]
  cases r[i]? with
  | none => rfl
  | some o => cases o <;> rfl
@[simp] theorem wS_retN : wS sRetN r Qn Qr Qb Qc = Qr (.n, .c) r := id rfl
@[simp] theorem wS_if : wS (sIf c s u) r Qn Qr Qb Qc = wT c r fun b r1 => (b = true → wS s r1 Qn Qr Qb Qc) ∧ (b = false → wS u r1 Qn Qr Qb Qc) := by
  unfold wS wT
  simp only [sIf]
  cases c r with
  | ok b r1 => cases b <;> simp
  | ex _ _ _ => rfl
  | no => rfl
@[simp] theorem wLen_0 {o : Option Vl} : (0 < (o :: r).length) = True := by simp
@[simp] theorem wLen_s {o : Option Vl} : (i + 1 < (o :: r).length) = (i < r.length) := by simp
@[simp] theorem wK_tgV {Q : Ev → Prop} : wK (tgV i (x, m) r) Q = (i < r.length ∧ setK r i (some (x, m)) Q) := by
  unfold wK tgV setK
  by_cases h : i < r.length <;> simp [h]
@[simp] theorem wK_tgI {Q : Ev → Prop} : wK (tgI i f (x, m) r) Q = (isL i r = true ∧ wE f r fun k r1 => match k.1 with
    | .i k => wG r1[i]? fun y my => wO (stL (y, my) k (x, m)) fun z mz => setK r1 i (some (z, mz)) Q
    | _ => False) := by
  unfold wK tgI wE setK
  by_cases h : isL i r = true
  · rw [if_pos h]
    simp only [h, true_and]
    cases f r with
    | ok k r1 =>
      obtain ⟨k, mk⟩ := k
      cases k with
      | i k =>
        simp only
        cases r1[i]? with
        | none => rfl
        | some o =>
          cases o with
          | none => rfl
          | some y =>
            obtain ⟨y, my⟩ := y
            simp only [wG_some]
            cases stL (y, my) k (x, m) <;> rfl
      | _ => rfl
    | ex _ _ _ => rfl
    | no => rfl
  · simp [h]
@[simp] theorem wK_tgT {Q : Ev → Prop} {ts : List (Vl → Ev → Option Ev)} {xs : List Dt} : wK (tgT ts (.t xs, m) r) Q = wK (tgs ts xs r) Q := id rfl
@[simp] theorem wK_tgTl {Q : Ev → Prop} {ts : List (Vl → Ev → Option Ev)} {xs : List Dt} : wK (tgT ts (.l xs, m) r) Q = wK (tgs ts xs r) Q := id rfl
@[simp] theorem wK_tgTz {Q : Ev → Prop} {ts : List (Vl → Ev → Option Ev)} {xs : List Dt} : wK (tgT ts (.z xs, m) r) Q = wK (tgs ts xs r) Q := id rfl
@[simp] theorem wK_tgs0 {Q : Ev → Prop} : wK (tgs [] [] r) Q = Q r := id rfl
@[simp] theorem wK_tgs {Q : Ev → Prop} {t : Vl → Ev → Option Ev} {ts : List (Vl → Ev → Option Ev)} {xs : List Dt} : wK (tgs (t :: ts) (x :: xs) r) Q = wK (t (x, .c) r) fun r1 => wK (tgs ts xs r1) Q := by
  unfold wK
  simp only [tgs]
  cases t (x, .c) r <;> rfl
@[simp] theorem isL_0 {xs : List Dt} : isL 0 (some (.l xs, m) :: r) = true := id rfl
@[simp] theorem isL_s {o : Option Vl} : isL (i + 1) (o :: r) = isL i r := id rfl
@[simp] theorem wS_app : wS (sAppG i f) r Qn Qr Qb Qc = (isL i r = true ∧ wE f r fun y r1 => wG r1[i]? fun x m => wO (apL (x, m) y) fun z mz => setK r1 i (some (z, mz)) Qn) := by
  unfold wS wE setK
  simp only [sAppG]
  by_cases h : isL i r = true
  · simp only [h, if_true, true_and, sApp, sWith]
    cases f r with
    | ok y r1 =>
      simp only
      cases r1[i]? with
      | none => rfl
      | some o =>
        cases o with
        | none => rfl
        | some x =>
          obtain ⟨x, m⟩ := x
          simp only [wG_some]
          cases apL (x, m) y <;> rfl
    | ex _ _ _ => rfl
    | no => rfl
  · simp [h]
def wH (fs : List (Ev → Ou Vl)) (r : Ev) (Q : List Vl → Ev → Prop) : Prop := match evH fs r with
  | .ok x r' => Q x r'
  | _ => False
@[simp] theorem wH_nil {Q : List Vl → Ev → Prop} : wH [] r Q = Q [] r := id rfl
@[simp] theorem wH_cons {Q : List Vl → Ev → Prop} {fs : List (Ev → Ou Vl)} : wH (f :: fs) r Q = wE f r fun x r1 => wH fs r1 fun xs r2 => Q (x :: xs) r2 := by
  unfold wH wE
  simp only [evH]
  cases f r with
  | ok x r1 =>
    simp only
    cases evH fs r1 <;> rfl
  | ex _ _ _ => rfl
  | no => rfl
@[simp] theorem wS_par {is : List Nat} {fs : List (Ev → Ou Vl)} : wS (sPar is fs) r Qn Qr Qb Qc = wH fs r fun xs r1 => wK (putE is xs r1) Qn := by
  unfold wS wH
  simp only [sPar]
  cases evH fs r with
  | ok xs r1 =>
    simp only
    cases h : putE is xs r1 <;> simp
  | ex _ _ _ => rfl
  | no => rfl
@[simp] theorem wK_put0 {Q : Ev → Prop} : wK (putE [] [] r) Q = Q r := id rfl
@[simp] theorem wK_put {Q : Ev → Prop} {is : List Nat} {xs : List Vl} {y : Vl} : wK (putE (i :: is) (y :: xs) r) Q = (i < r.length ∧ setK r i (some y) fun r1 => wK (putE is xs r1) Q) := by
  unfold wK setK
  simp only [putE]
  by_cases h : i < r.length <;> simp [h]
@[simp] theorem wS_aug {C : Int → Int → Bool} {o : Int → Int → Int} : wS (sAug i C o f) r Qn Qr Qb Qc = wG r[i]? fun x _ => match x with
    | .i a => wE f r fun y r1 => match y.1 with
      | .i b => C a b = true ∧ setK r1 i (some (.i (o a b), .c)) Qn
      | _ => False
    | _ => False := by
  unfold wS wG wE setK
  simp only [sAug]
  cases r[i]? with
  | none => rfl
  | some z =>
    cases z with
    | none => rfl
    | some xm =>
      obtain ⟨x, m⟩ := xm
      cases x with
      | i a =>
        simp only
        cases f r with
        | ok y r1 =>
          obtain ⟨y, my⟩ := y
          cases y with
          | i b =>
            simp only
            by_cases h : C a b = true <;> simp [h]
          | _ => rfl
        | ex _ _ _ => rfl
        | no => rfl
      | _ => rfl
theorem wS_for {q : Ev → Ou (List Dt)} {t : Vl → Ev → Option Ev} {body : Ev → So} (P : Nat → Ev → Prop) {xs : List Dt} {r1 : Ev} (hq : q r = .ok xs r1) (h0 : P 0 r1)
    (hs : ∀ k x r, xs[k]? = some x → P k r → wK (t (x, .c) r) fun r2 => wS body r2 (P (k + 1)) Qr Qn (P (k + 1))) (hn : ∀ r, P xs.length r → Qn r) : wS (sFor q t body) r Qn Qr Qb Qc := by
  have go : ∀ (ys : List Dt) (k : Nat) (r : Ev), (∀ i, ys[i]? = xs[k + i]?) → k + ys.length = xs.length → P k r → wS (fun r => forL t body ys r) r Qn Qr Qb Qc := by
    intro ys
    induction ys with
    | nil =>
      intro k r _ hk hp
      have : k = xs.length := by simpa using hk
      subst this
      exact hn r hp
    | cons y ys ih =>
      intro k r hy hk hp
      have h1 := hs k y r (by have := hy 0; simpa using this.symm) hp
      unfold wS
      simp only [forL]
      cases ht : t (y, .c) r with
      | none => rw [ht] at h1; exact h1
      | some r2 =>
        rw [ht] at h1
        simp only
        have h1 : wS body r2 (P (k + 1)) Qr Qn (P (k + 1)) := h1
        have nx : ∀ r3, P (k + 1) r3 → wS (fun r => forL t body ys r) r3 Qn Qr Qb Qc := fun r3 h3 => ih (k + 1) r3 (fun i => by
          have := hy (i + 1)
          rw [show k + (i + 1) = k + 1 + i by omega] at this
          simpa using this) (by simp at hk; omega) h3
        unfold wS at h1
        cases hb : body r2 with
        | nx r3 => rw [hb] at h1; exact nx r3 h1
        | ct r3 => rw [hb] at h1; exact nx r3 h1
        | bk r3 => rw [hb] at h1; exact h1
        | rt z r3 => rw [hb] at h1; exact h1
        | ex _ _ _ => rw [hb] at h1; exact h1
        | no => rw [hb] at h1; exact h1
  have := go xs 0 r1 (fun i => by simp) (by simp) h0
  unfold wS at this ⊢
  simp only [sFor, hq]
  exact this
theorem wS_for' {q : Ev → Ou (List Dt)} {t : Vl → Ev → Option Ev} {body : Ev → So} (h : wI q r fun xs r1 => ∃ P : Nat → Ev → Prop, P 0 r1 ∧ (∀ k x r, xs[k]? = some x → P k r → wK (t (x, .c) r) fun r2 => wS body r2 (P (k + 1)) Qr Qn (P (k + 1))) ∧ ∀ r, P xs.length r → Qn r) : wS (sFor q t body) r Qn Qr Qb Qc := by
  unfold wI at h
  cases hq : q r with
  | ok xs r1 =>
    rw [hq] at h
    obtain ⟨P, h0, h1, h2⟩ := h
    exact wS_for P hq h0 h1 h2
  | ex _ _ _ => rw [hq] at h; exact h.elim
  | no => rw [hq] at h; exact h.elim
/-- a comprehension, item by item; the state stays -/
theorem lc_map {own : Bool} {vs : List Nat} {t : Vl → Ev → Option Ev} (G : Dt → Dt) : ∀ (xs acc : List Dt), (∀ x ∈ xs, wK (t (x, .c) r) fun r1 => wT c r1 fun b r2 => b = true ∧ wE f r2 fun y r3 => y.1 = G x ∧ (own = true → zfl y = true) ∧ wipeE r3 vs = r) → lcL vs t c f own xs r acc = .ok (acc ++ xs.map G) r
  | [], acc, _ => by simp [lcL]
  | x :: xs, acc, h => by
    have h1 := h x List.mem_cons_self
    unfold wK at h1
    simp only [lcL]
    cases ht : t (x, .c) r with
    | none => rw [ht] at h1; exact h1.elim
    | some r1 =>
      rw [ht] at h1
      simp only at h1 ⊢
      unfold wT at h1
      cases hc : c r1 with
      | ok b r2 =>
        rw [hc] at h1
        obtain ⟨rfl, h1⟩ := h1
        simp only
        unfold wE at h1
        cases hf : f r2 with
        | ok y r3 =>
          rw [hf] at h1
          obtain ⟨y, my⟩ := y
          obtain ⟨e1, e2, e3⟩ := h1
          simp only at e1 ⊢
          subst e1
          rw [e3, if_neg (by cases own <;> simp_all), lc_map G xs _ fun z hz => h z (List.mem_cons_of_mem _ hz)]
          simp
        | ex _ _ _ => rw [hf] at h1; exact h1.elim
        | no => rw [hf] at h1; exact h1.elim
      | ex _ _ _ => rw [hc] at h1; exact h1.elim
      | no => rw [hc] at h1; exact h1.elim
/-- .. some of them -/
theorem lc_filter {own : Bool} {vs : List Nat} {t : Vl → Ev → Option Ev} (C : Dt → Bool) (G : Dt → Dt) : ∀ (xs acc : List Dt), (∀ x ∈ xs, wK (t (x, .c) r) fun r1 => wT c r1 fun b r2 => b = C x ∧ (b = false → wipeE r2 vs = r) ∧ (b = true → wE f r2 fun y r3 => y.1 = G x ∧ (own = true → zfl y = true) ∧ wipeE r3 vs = r)) → lcL vs t c f own xs r acc = .ok (acc ++ (xs.filter C).map G) r
  | [], acc, _ => by simp [lcL]
  | x :: xs, acc, h => by
    have h1 := h x List.mem_cons_self
    unfold wK at h1
    simp only [lcL]
    cases ht : t (x, .c) r with
    | none => rw [ht] at h1; exact h1.elim
    | some r1 =>
      rw [ht] at h1
      simp only at h1 ⊢
      unfold wT at h1
      cases hc : c r1 with
      | ok b r2 =>
        rw [hc] at h1
        obtain ⟨h2, h3, h4⟩ := h1
        cases b with
        | false =>
          simp only
          rw [h3 rfl, lc_filter C G xs acc fun z hz => h z (List.mem_cons_of_mem _ hz)]
          simp [← h2]
        | true =>
          simp only
          have h4 := h4 rfl
          unfold wE at h4
          cases hf : f r2 with
          | ok y r3 =>
            rw [hf] at h4
            obtain ⟨y, my⟩ := y
            obtain ⟨e1, e2, e3⟩ := h4
            simp only at e1 ⊢
            subst e1
            rw [e3, if_neg (by cases own <;> simp_all), lc_filter C G xs _ fun z hz => h z (List.mem_cons_of_mem _ hz)]
            simp [← h2]
          | ex _ _ _ => rw [hf] at h4; exact h4.elim
          | no => rw [hf] at h4; exact h4.elim
      | ex _ _ _ => rw [hc] at h1; exact h1.elim
      | no => rw [hc] at h1; exact h1.elim
@[simp] theorem wFn_mk {xs : List Vl} {QF : Vl → Vl → Prop} : wFn (mkFn false n s) xs QF = wS s (xs.map some ++ List.replicate (n - xs.length) none) (fun _ => QF (.n, .c) (.n, .c)) (fun x _ => QF x (.n, .c)) (fun _ => False) (fun _ => False) := by
  unfold wFn wS
  simp only [mkFn]
  cases s (xs.map some ++ List.replicate (n - xs.length) none) <;> rfl
@[simp] theorem wFn_mkI {xs : List Vl} {QF : Vl → Vl → Prop} : wFn (mkFn true n s) xs QF = wS s (xs.map some ++ List.replicate (n - xs.length) none) (fun r => wG r[0]? fun z mz => QF (.n, .c) (z, mz)) (fun x r => wG r[0]? fun z mz => QF x (z, mz)) (fun _ => False) (fun _ => False) := by
  unfold wFn wS
  simp only [mkFn]
  cases s (xs.map some ++ List.replicate (n - xs.length) none) with
  | rt x r =>
    simp only [fin]
    cases r[0]? with
    | none => rfl
    | some o => cases o <;> rfl
  | nx r =>
    simp only [fin]
    cases r[0]? with
    | none => rfl
    | some o => cases o <;> rfl
  | ex c fs r =>
    simp only [finX]
    cases r[0]? with
    | none => rfl
    | some o => cases o <;> rfl
  | _ => rfl
theorem wFn_ex {xs : List Vl} {QF : Vl → Vl → Prop} (h : wFn fn xs QF) : ∃ x z, fn xs = .rt x z ∧ QF x z := by
  unfold wFn at h
  cases e : fn xs with
  | rt x z => rw [e] at h; exact ⟨x, z, rfl, h⟩
  | ex _ _ _ => rw [e] at h; exact h.elim
  | no => rw [e] at h; exact h.elim
end
end Y
namespace Y
open PySem L2 PyProof.Rows
/-- an item by its place -/
def wAt (xs : List Dt) (k : Int) (Q : Dt → Prop) : Prop := ∃ y, atI xs k = some y ∧ Q y
def wSt (xs : List Dt) (k : Int) (y : Dt) (Q : List Dt → Prop) : Prop := ∃ j, ixN xs.length k = some j ∧ Q (xs.set j y)
theorem ixN_succ {n : Nat} {k : Int} (h : 0 ≤ k) : ixN (n + 1) (k + 1) = (ixN n k).map (· + 1) := by
  unfold ixN
  rw [if_pos (by omega), if_pos h]
  by_cases q : k < n
  · rw [if_pos (by omega), if_pos q]
    simp only [Option.map_some]
    rw [Int.toNat_add h (by omega)]
    rfl
  · rw [if_neg (by omega), if_neg q]; rfl
theorem wAt_succ {x : Dt} {xs : List Dt} {k : Int} {Q : Dt → Prop} (h : 0 ≤ k) : wAt (x :: xs) (k + 1) Q = wAt xs k Q := by
  unfold wAt atI
  rw [List.length_cons, ixN_succ h]
  cases ixN xs.length k <;> simp
theorem wSt_succ {x y : Dt} {xs : List Dt} {k : Int} {Q : List Dt → Prop} (h : 0 ≤ k) : wSt (x :: xs) (k + 1) y Q = wSt xs k y fun zs => Q (x :: zs) := by
  unfold wSt
  rw [List.length_cons, ixN_succ h]
  cases ixN xs.length k <;> simp
@[simp] theorem wAt_0 {x : Dt} {xs : List Dt} {Q : Dt → Prop} : wAt (x :: xs) 0 Q = Q x := by
  have : atI (x :: xs) 0 = some x := by
    have := atI_nat (x :: xs) 0
    simpa using this
  simp [wAt, this]
@[simp] theorem wSt_0 {x y : Dt} {xs : List Dt} {Q : List Dt → Prop} : wSt (x :: xs) 0 y Q = Q (y :: xs) := by
  have : ixN (x :: xs).length 0 = some 0 := by
    have := ixN_nat (n := (x :: xs).length) (k := 0) (by simp)
    simpa using this
  simp only [wSt, this]
  simp
@[simp] theorem wAt_1 {x : Dt} {xs : List Dt} {Q : Dt → Prop} : wAt (x :: xs) 1 Q = wAt xs 0 Q := wAt_succ (k := 0) (by decide)
@[simp] theorem wSt_1 {x y : Dt} {xs : List Dt} {Q : List Dt → Prop} : wSt (x :: xs) 1 y Q = wSt xs 0 y fun zs => Q (x :: zs) := wSt_succ (k := 0) (by decide)
@[simp] theorem wAt_2 {x : Dt} {xs : List Dt} {Q : Dt → Prop} : wAt (x :: xs) 2 Q = wAt xs 1 Q := wAt_succ (k := 1) (by decide)
@[simp] theorem wSt_2 {x y : Dt} {xs : List Dt} {Q : List Dt → Prop} : wSt (x :: xs) 2 y Q = wSt xs 1 y fun zs => Q (x :: zs) := wSt_succ (k := 1) (by decide)
@[simp] theorem wAt_3 {x : Dt} {xs : List Dt} {Q : Dt → Prop} : wAt (x :: xs) 3 Q = wAt xs 2 Q := wAt_succ (k := 2) (by decide)
@[simp] theorem wSt_3 {x y : Dt} {xs : List Dt} {Q : List Dt → Prop} : wSt (x :: xs) 3 y Q = wSt xs 2 y fun zs => Q (x :: zs) := wSt_succ (k := 2) (by decide)
@[simp] theorem wAt_4 {x : Dt} {xs : List Dt} {Q : Dt → Prop} : wAt (x :: xs) 4 Q = wAt xs 3 Q := wAt_succ (k := 3) (by decide)
@[simp] theorem wSt_4 {x y : Dt} {xs : List Dt} {Q : List Dt → Prop} : wSt (x :: xs) 4 y Q = wSt xs 3 y fun zs => Q (x :: zs) := wSt_succ (k := 3) (by decide)
@[simp] theorem wAt_5 {x : Dt} {xs : List Dt} {Q : Dt → Prop} : wAt (x :: xs) 5 Q = wAt xs 4 Q := wAt_succ (k := 4) (by decide)
@[simp] theorem wSt_5 {x y : Dt} {xs : List Dt} {Q : List Dt → Prop} : wSt (x :: xs) 5 y Q = wSt xs 4 y fun zs => Q (x :: zs) := wSt_succ (k := 4) (by decide)
@[simp] theorem wAt_6 {x : Dt} {xs : List Dt} {Q : Dt → Prop} : wAt (x :: xs) 6 Q = wAt xs 5 Q := wAt_succ (k := 5) (by decide)
@[simp] theorem wSt_6 {x y : Dt} {xs : List Dt} {Q : List Dt → Prop} : wSt (x :: xs) 6 y Q = wSt xs 5 y fun zs => Q (x :: zs) := wSt_succ (k := 5) (by decide)
@[simp] theorem wAt_7 {x : Dt} {xs : List Dt} {Q : Dt → Prop} : wAt (x :: xs) 7 Q = wAt xs 6 Q := wAt_succ (k := 6) (by decide)
@[simp] theorem wSt_7 {x y : Dt} {xs : List Dt} {Q : List Dt → Prop} : wSt (x :: xs) 7 y Q = wSt xs 6 y fun zs => Q (x :: zs) := wSt_succ (k := 6) (by decide)
@[simp] theorem isT_n_list : isT "list" .n = false := by simp [isT, tyN]
@[simp] theorem isT_b_list {p : Bool} : isT "list" (.b p) = false := by simp [isT, tyN]
@[simp] theorem isT_i_list {a : Int} : isT "list" (.i a) = false := by simp [isT, tyN]
@[simp] theorem isT_s_list {z : Str} : isT "list" (.s z) = false := by simp [isT, tyN]
@[simp] theorem isT_t_list {xs : List Dt} : isT "list" (.t xs) = false := by simp [isT, tyN]
@[simp] theorem isT_l_list {xs : List Dt} : isT "list" (.l xs) = true := by simp [isT, tyN]
@[simp] theorem isT_z_list {xs : List Dt} : isT "list" (.z xs) = true := by simp [isT, tyN]
@[simp] theorem isT_n_tuple : isT "tuple" .n = false := by simp [isT, tyN]
@[simp] theorem isT_b_tuple {p : Bool} : isT "tuple" (.b p) = false := by simp [isT, tyN]
@[simp] theorem isT_i_tuple {a : Int} : isT "tuple" (.i a) = false := by simp [isT, tyN]
@[simp] theorem isT_s_tuple {z : Str} : isT "tuple" (.s z) = false := by simp [isT, tyN]
@[simp] theorem isT_t_tuple {xs : List Dt} : isT "tuple" (.t xs) = true := by simp [isT, tyN]
@[simp] theorem isT_l_tuple {xs : List Dt} : isT "tuple" (.l xs) = false := by simp [isT, tyN]
@[simp] theorem isT_z_tuple {xs : List Dt} : isT "tuple" (.z xs) = false := by simp [isT, tyN]
@[simp] theorem isT_n_str : isT "str" .n = false := by simp [isT, tyN]
@[simp] theorem isT_b_str {p : Bool} : isT "str" (.b p) = false := by simp [isT, tyN]
@[simp] theorem isT_i_str {a : Int} : isT "str" (.i a) = false := by simp [isT, tyN]
@[simp] theorem isT_s_str {z : Str} : isT "str" (.s z) = true := by simp [isT, tyN]
@[simp] theorem isT_t_str {xs : List Dt} : isT "str" (.t xs) = false := by simp [isT, tyN]
@[simp] theorem isT_l_str {xs : List Dt} : isT "str" (.l xs) = false := by simp [isT, tyN]
@[simp] theorem isT_z_str {xs : List Dt} : isT "str" (.z xs) = false := by simp [isT, tyN]
@[simp] theorem isT_n_bool : isT "bool" .n = false := by simp [isT, tyN]
@[simp] theorem isT_b_bool {p : Bool} : isT "bool" (.b p) = true := by simp [isT, tyN]
@[simp] theorem isT_i_bool {a : Int} : isT "bool" (.i a) = false := by simp [isT, tyN]
@[simp] theorem isT_s_bool {z : Str} : isT "bool" (.s z) = false := by simp [isT, tyN]
@[simp] theorem isT_t_bool {xs : List Dt} : isT "bool" (.t xs) = false := by simp [isT, tyN]
@[simp] theorem isT_l_bool {xs : List Dt} : isT "bool" (.l xs) = false := by simp [isT, tyN]
@[simp] theorem isT_z_bool {xs : List Dt} : isT "bool" (.z xs) = false := by simp [isT, tyN]
@[simp] theorem isT_n_int : isT "int" .n = false := by simp [isT, tyN]
@[simp] theorem isT_b_int {p : Bool} : isT "int" (.b p) = true := by simp [isT, tyN]
@[simp] theorem isT_i_int {a : Int} : isT "int" (.i a) = true := by simp [isT, tyN]
@[simp] theorem isT_s_int {z : Str} : isT "int" (.s z) = false := by simp [isT, tyN]
@[simp] theorem isT_t_int {xs : List Dt} : isT "int" (.t xs) = false := by simp [isT, tyN]
@[simp] theorem isT_l_int {xs : List Dt} : isT "int" (.l xs) = false := by simp [isT, tyN]
@[simp] theorem isT_z_int {xs : List Dt} : isT "int" (.z xs) = false := by simp [isT, tyN]
@[simp] theorem isn_n : isn .n = true := id rfl
@[simp] theorem isn_b {p : Bool} : isn (.b p) = false := id rfl
@[simp] theorem isn_i {a : Int} : isn (.i a) = false := id rfl
@[simp] theorem isn_s {z : Str} : isn (.s z) = false := id rfl
@[simp] theorem isn_t {xs : List Dt} : isn (.t xs) = false := id rfl
@[simp] theorem isn_l {xs : List Dt} : isn (.l xs) = false := id rfl
@[simp] theorem isn_z {xs : List Dt} : isn (.z xs) = false := id rfl
theorem shp_li (ns : List Int) : shp (.l (ns.map .i)) = true := by
  have h1 : PyData.canLayAll0 (toPL (ns.map .i)) = true := by
    induction ns with
    | nil => rfl
    | cons n ns ih => simp [toPL, toP, PyData.canLayAll0, PyData.canLay0, ih]
  have h2 : PyData.depthAll (toPL (ns.map .i)) = 0 := by
    clear h1
    induction ns with
    | nil => rfl
    | cons n ns ih => simp [toPL, toP, PyData.depthAll, PyData.depth, ih]
  simp [shp, toP, SeqAt.shaped, PyData.canLay0, PyData.depth, h1, h2]
theorem eqD_li : ∀ (ns ms : List Int), eqD (.l (ns.map .i)) (.l (ms.map .i)) = decide (ns = ms) := by
  have go : ∀ ns ms : List Int, PyData.eqvAll (toPL (ns.map .i)) (toPL (ms.map .i)) = decide (ns = ms) := by
    intro ns
    induction ns with
    | nil => intro ms; cases ms <;> simp [toPL, PyData.eqvAll]
    | cons n ns ih =>
      intro ms
      cases ms with
      | nil => simp [toPL, PyData.eqvAll]
      | cons k ms =>
        simp only [List.map_cons, toPL, toP, PyData.eqvAll, PyData.eqv, ih, beq_dec, List.cons.injEq]
        by_cases h : n = k <;> simp [h]
  intro ns ms
  simp only [eqD, toP, PyData.eqv, go]
section
variable {a b k : Int} {x y : Dt} {xs ys : List Dt} {Q : Dt → Md → Prop} {QL : List Dt → Prop} {m : Md} {p q : Bool}
@[simp] theorem wO_add : wO (fAdd [.i a, .i b]) Q = Q (.i (a + b)) .c := id rfl
theorem wL_if {c : Prop} [Decidable c] {v : List Dt} : wL (if c then some v else none) QL = (c ∧ QL v) := by by_cases h : c <;> simp [h, wL]
theorem wO_if {c : Prop} [Decidable c] {v : Vl} : wO (if c then some v else none) Q = (c ∧ Q v.1 v.2) := by by_cases h : c <;> simp [h, wO]
@[simp] theorem wO_addL : wO (fAdd [.l xs, .l ys]) Q = (xs.length + ys.length ≤ LIM ∧ Q (.l (xs ++ ys)) .t) := by
  simp only [fAdd, fII, fCatL, fCatT, fCatS, Option.none_or]
  by_cases h : xs.length + ys.length ≤ LIM <;> simp [h]
@[simp] theorem wO_addT : wO (fAdd [.t xs, .t ys]) Q = (xs.length + ys.length ≤ LIM ∧ Q (.t (xs ++ ys)) .c) := by
  simp only [fAdd, fII, fCatL, fCatT, fCatS, Option.none_or]
  by_cases h : xs.length + ys.length ≤ LIM <;> simp [h]
@[simp] theorem wO_sub : wO (fSub [.i a, .i b]) Q = Q (.i (a - b)) .c := id rfl
@[simp] theorem wO_neg : wO (fNeg [.i a]) Q = Q (.i (-a)) .c := id rfl
@[simp] theorem wO_mul : wO (fMul [.i a, .i b]) Q = (cMul a b = true ∧ Q (.i (a * b)) .c) := by
  simp only [fMul, fMulI, fIC, fRepL, fRepT, Option.or_none]
  by_cases h : cMul a b = true <;> simp [h]
@[simp] theorem wO_mulL : wO (fMul [.l xs, .i k]) Q = ((k ≤ 1000000 ∧ -1000000 ≤ k ∧ xs.length * k.toNat ≤ LIM) ∧ Q (.l (List.replicate k.toNat xs).flatten) .t) := by
  simp only [fMul, fMulI, fIC, fRepL, fRepT, Option.none_or, Option.or_none]
  exact wO_if
@[simp] theorem wO_mod : wO (fMod [.i a, .i b]) Q = (0 < b ∧ Q (.i (a % b)) .c) := by
  simp only [fMod, fIC]
  by_cases h : 0 < b <;> simp [h]
@[simp] theorem wO_div : wO (fDiv [.i a, .i b]) Q = ((0 < b ∧ b.natAbs.log2 < 9000) ∧ Q (.i (a / b)) .c) := by
  simp only [fDiv, fIC]
  rw [wO_if]
  simp
theorem log_ok {b : Int} (h0 : 0 < b) (h2 : b < 2 ^ 64) : b.natAbs.log2 < 9000 := by
  have h3 : b.natAbs < 2 ^ 64 := by omega
  by_cases h0 : b.natAbs = 0
  · rw [h0]; decide
  · have := (Nat.log2_lt h0).mpr h3
    omega
@[simp] theorem wO_pow : wO (fPow [.i a, .i b]) Q = ((0 ≤ b ∧ b ≤ 1000000 ∧ a.natAbs < 2 ^ 64) ∧ Q (.i (a ^ b.toNat)) .c) := by
  simp only [fPow, fIC]
  by_cases h : 0 ≤ b ∧ b ≤ 1000000 ∧ a.natAbs < 2 ^ 64
  · simp [h]
  · simp only [h, false_and]
    rw [if_neg (by simpa [and_assoc] using h)]
    rfl
@[simp] theorem wO_lt : wO (fLt [.i a, .i b]) Q = Q (.b (decide (a < b))) .c := id rfl
@[simp] theorem wO_le : wO (fLe [.i a, .i b]) Q = Q (.b (decide (a ≤ b))) .c := id rfl
@[simp] theorem wO_gt : wO (fGt [.i a, .i b]) Q = Q (.b (decide (b < a))) .c := id rfl
@[simp] theorem wO_ge : wO (fGe [.i a, .i b]) Q = Q (.b (decide (b ≤ a))) .c := id rfl
@[simp] theorem wO_eqI : wO (fEq [.i a, .i b]) Q = Q (.b (decide (a = b))) .c := by rw [fEq_i]; rfl
@[simp] theorem wO_neI : wO (fNe [.i a, .i b]) Q = Q (.b (!decide (a = b))) .c := by rw [fNe_i]; rfl
@[simp] theorem wO_eqB : wO (fEq [.b p, .b q]) Q = Q (.b (decide (p = q))) .c := by rw [fEq_b]; rfl
@[simp] theorem wO_neB : wO (fNe [.b p, .b q]) Q = Q (.b (!decide (p = q))) .c := by rw [fNe_b]; rfl
@[simp] theorem wO_eqS {z z' : Str} : wO (fEq [.s z, .s z']) Q = Q (.b (decide (z = z'))) .c := id rfl
@[simp] theorem wO_neS {z z' : Str} : wO (fNe [.s z, .s z']) Q = Q (.b (!decide (z = z'))) .c := id rfl
theorem wO_eq (hx : ∀ z, x ≠ .s z) : wO (fEq [x, y]) Q = ((shp x = true ∧ shp y = true) ∧ Q (.b (eqD x y)) .c) := by
  unfold fEq
  split
  · rename_i a b h
    cases h
    exact absurd rfl (hx a)
  · rename_i a b h0 h
    cases h
    by_cases h : shp x = true ∧ shp y = true
    · simp [h]
    · rw [if_neg (by simpa using h)]; simp [h]
  · rename_i h1 h2
    exact absurd rfl (h2 x y)
theorem wO_ne (hx : ∀ z, x ≠ .s z) : wO (fNe [x, y]) Q = ((shp x = true ∧ shp y = true) ∧ Q (.b (!eqD x y)) .c) := by
  unfold fNe
  split
  · rename_i a b h
    cases h
    exact absurd rfl (hx a)
  · rename_i a b h0 h
    cases h
    by_cases h : shp x = true ∧ shp y = true
    · simp [h]
    · rw [if_neg (by simpa using h)]; simp [h]
  · rename_i h1 h2
    exact absurd rfl (h2 x y)
theorem wO_neL : wO (fNe [.l xs, y]) Q = ((shp (.l xs) = true ∧ shp y = true) ∧ Q (.b (!eqD (.l xs) y)) .c) := wO_ne fun z h => by cases h
theorem wO_eqT : wO (fEq [.t xs, y]) Q = ((shp (.t xs) = true ∧ shp y = true) ∧ Q (.b (eqD (.t xs) y)) .c) := wO_eq fun z h => by cases h
@[simp] theorem wO_ixL : wO (fIx [.l xs, .i k]) Q = wAt xs k fun y => Q y .c := by
  unfold wAt
  rw [fIx_l]
  cases atI xs k <;> simp
@[simp] theorem wO_ixT : wO (fIx [.t xs, .i k]) Q = wAt xs k fun y => Q y .c := by
  unfold wAt
  rw [fIx_t]
  cases atI xs k <;> simp
@[simp] theorem wO_ixZ : wO (fIx [.z xs, .i k]) Q = wAt xs k fun y => Q y .c := by
  unfold wAt
  rw [fIx_z]
  cases atI xs k <;> simp
@[simp] theorem wO_lst : wO (fLst xs) Q = (xs.length ≤ LIM ∧ Q (.l xs) .t) := by
  simp only [fLst]; exact wO_if
@[simp] theorem wO_tup : wO (fTup xs) Q = (xs.length ≤ LIM ∧ Q (.t xs) .c) := by
  simp only [fTup]; exact wO_if
@[simp] theorem wO_lenL : wO (fLen [.l xs]) Q = Q (.i xs.length) .c := id rfl
@[simp] theorem wO_lenT : wO (fLen [.t xs]) Q = Q (.i xs.length) .c := id rfl
@[simp] theorem wO_lenZ : wO (fLen [.z xs]) Q = Q (.i xs.length) .c := id rfl
@[simp] theorem wO_listL : wO (fList [.l xs]) Q = Q (.l xs) .t := id rfl
@[simp] theorem wO_listT : wO (fList [.t xs]) Q = Q (.l xs) .t := id rfl
@[simp] theorem wO_listZ : wO (fList [.z xs]) Q = Q (.l xs) .t := id rfl
@[simp] theorem wO_tupL : wO (fTuple [.l xs]) Q = Q (.t xs) .c := id rfl
@[simp] theorem wO_tupT : wO (fTuple [.t xs]) Q = Q (.t xs) .c := id rfl
@[simp] theorem wO_abs : wO (fAbs [.i a]) Q = Q (.i (if a < 0 then -a else a)) .c := id rfl
@[simp] theorem wO_max2 : wO (fMax2 [.i a, .i b]) Q = Q (.i (if b > a then b else a)) .c := id rfl
@[simp] theorem wO_min2 : wO (fMin2 [.i a, .i b]) Q = Q (.i (if b < a then b else a)) .c := id rfl
@[simp] theorem wO_intI : wO (fInt [.i a]) Q = Q (.i a) .c := id rfl
@[simp] theorem wO_intB : wO (fInt [.b p]) Q = Q (.i (if p then 1 else 0)) .c := id rfl
@[simp] theorem wO_sum {ns : List Int} : wO (fSum [.l (ns.map .i)]) Q = Q (.i ns.sum) .c := by simp [fSum, ints_map]
@[simp] theorem wO_all {ns : List Bool} : wO (fAll [.l (ns.map .b)]) Q = Q (.b (ns.all id)) .c := by simp [fAll, bls_map]
@[simp] theorem wO_any {ns : List Bool} : wO (fAny [.l (ns.map .b)]) Q = Q (.b (ns.any id)) .c := by simp [fAny, bls_map]
@[simp] theorem isP_n : isP .n = true := id rfl
@[simp] theorem isP_b : isP (.b p) = true := id rfl
@[simp] theorem isP_i : isP (.i a) = true := id rfl
@[simp] theorem isP_s {z : Str} : isP (.s z) = true := id rfl
@[simp] theorem isP_t : isP (.t xs) = true := id rfl
@[simp] theorem isP_l : isP (.l xs) = true := id rfl
@[simp] theorem isP_z : isP (.z xs) = true := id rfl
@[simp] theorem wO_isi {Ts : List String} : wO (fIsi Ts [x]) Q = (isP x = true ∧ Q (.b (Ts.any (isT · x))) .c) := by
  by_cases h : isP x = true
  · simp [fIsi, h]
  · simp [fIsi, h]
@[simp] theorem wO_isN : wO (fIs [x, .n]) Q = Q (.b (isn x)) .c := id rfl
@[simp] theorem wO_notN : wO (fNot [x, .n]) Q = Q (.b (!isn x)) .c := id rfl
@[simp] theorem wO_revL : wO (fRev [.l xs]) Q = Q (.l xs.reverse) .t := id rfl
@[simp] theorem wL_rng1 : wL (sRng1 [.i k]) QL = ((-(2 ^ 60) ≤ k ∧ k ≤ LIM) ∧ QL (rngD 0 k.toNat)) := by
  simp only [sRng1]; exact wL_if
@[simp] theorem wL_rng2 : wL (sRng2 [.i a, .i b]) QL = ((-(2 ^ 60) ≤ a ∧ a ≤ 2 ^ 60 ∧ -(2 ^ 60) ≤ b ∧ b ≤ 2 ^ 60 ∧ b - a ≤ LIM) ∧ QL (rngD a (b - a).toNat)) := by
  simp only [sRng2]; exact wL_if
@[simp] theorem wL_seqL : wL (sSq [.l xs]) QL = QL xs := id rfl
@[simp] theorem wL_seqT : wL (sSq [.t xs]) QL = QL xs := id rfl
@[simp] theorem wL_seqZ : wL (sSq [.z xs]) QL = QL xs := id rfl
@[simp] theorem wL_enumL : wL (sEnum [.l xs]) QL = QL (enumD 0 xs) := id rfl
@[simp] theorem wL_zipL : wL (sZip [.l xs, .l ys]) QL = QL (zipD xs ys) := id rfl
@[simp] theorem wL_zipT : wL (sZip [.t xs, .t ys]) QL = QL (zipD xs ys) := id rfl
@[simp] theorem wO_apT {y : Vl} : wO (apL (.l xs, .t) y) Q = (xs.length < LIM ∧ Q (.l (xs ++ [y.1])) .t) := by
  simp only [apL]; exact wO_if
@[simp] theorem wO_apA {y : Vl} : wO (apL (.l xs, .a) y) Q = ((xs.length < LIM ∧ zfl y = true) ∧ Q (.l (xs ++ [y.1])) .a) := by
  simp only [apL]; exact wO_if
@[simp] theorem wO_stT {y : Vl} : wO (stL (.l xs, .t) k y) Q = wSt xs k y.1 fun zs => Q (.l zs) .t := by
  unfold wSt
  simp only [stL]
  cases ixN xs.length k <;> simp
@[simp] theorem wE_Sl {A : Am} {r : Ev} {lo hi : Option (Ev → Ou Vl)} {Q : Vl → Ev → Prop} : wE (mSl A lo hi) r Q = wA [A] r fun ys r1 => wP lo r1 fun l r2 => wP hi r2 fun h r3 => wL (look r3 ys) fun xs => match xs with
    | [x] => wO (fSl l h x) fun y m => wZ y ys r3 (Q (y, m))
    | _ => False := by
  unfold wE wA wZ
  simp only [mSl]
  cases evA [A] r with
  | ok ys r1 =>
    simp only
    unfold wP
    cases evP lo r1 with
    | ok l r2 =>
      simp only
      cases evP hi r2 with
      | ok u r3 =>
        simp only
        cases look r3 ys with
        | none => rfl
        | some xs =>
          simp only [wL_some]
          match xs with
          | [] => rfl
          | [x] =>
            simp only
            cases fSl l u x with
            | none => rfl
            | some y => rfl
          | _ :: _ :: _ => rfl
      | ex _ _ _ => rfl
      | no => rfl
    | ex _ _ _ => rfl
    | no => rfl
  | ex _ _ _ => rfl
  | no => rfl
@[simp] theorem wO_slL {l h : Option Int} : wO (fSl l h (.l xs)) Q = Q (.l (cutD xs l h)) .t := id rfl
@[simp] theorem wO_slZ {l h : Option Int} : wO (fSl l h (.z xs)) Q = Q (.l (cutD xs l h)) .t := id rfl
@[simp] theorem wO_slT {l h : Option Int} : wO (fSl l h (.t xs)) Q = Q (.t (cutD xs l h)) .c := id rfl
theorem cMul_01 {p : Prop} [Decidable p] : cMul a (if p then 1 else 0) = true := by
  split
  · exact cMul_r (by omega) (by omega)
  · exact cMul_r (by omega) (by omega)
theorem atI_i {cs : List Int} (h0 : 0 ≤ k) (h : k < cs.length) : ∃ c, atI (cs.map Dt.i) k = some (Dt.i c) ∧ cs[k.toNat]? = some c := by
  obtain ⟨n, rfl⟩ := Int.eq_ofNat_of_zero_le h0
  have hn : n < cs.length := by omega
  refine ⟨cs[n], ?_, by simp [hn]⟩
  rw [atI_nat]
  simp [hn]
theorem wAt_i {cs : List Int} {Q : Dt → Prop} (h0 : 0 ≤ k) (h : k < cs.length) (q : ∀ c, cs[k.toNat]? = some c → Q (Dt.i c)) : wAt (cs.map Dt.i) k Q := by
  obtain ⟨c, h1, h2⟩ := atI_i h0 h
  exact ⟨_, h1, q c h2⟩
theorem lim3 {n : Nat} (h : n ≤ 1000) : n ≤ LIM := Nat.le_trans h (by decide)
@[simp] theorem wO_max1 {ns : List Int} : wO (fMax1 [.l ((a :: ns).map .i)]) Q = Q (.i (lmax a ns)) .c := by simp [fMax1, intsL, ints_map]
@[simp] theorem wO_min1 {ns : List Int} : wO (fMin1 [.l ((a :: ns).map .i)]) Q = Q (.i (lmin a ns)) .c := by simp [fMin1, intsL, ints_map]
@[simp] theorem wO_max1T {ns : List Int} : wO (fMax1 [.t ((a :: ns).map .i)]) Q = Q (.i (lmax a ns)) .c := by simp [fMax1, intsL, ints_map]
@[simp] theorem wO_min1T {ns : List Int} : wO (fMin1 [.t ((a :: ns).map .i)]) Q = Q (.i (lmin a ns)) .c := by simp [fMin1, intsL, ints_map]
@[simp] theorem wAt_last {Q : Dt → Prop} : wAt (xs ++ [x]) (-1) Q = Q x := by
  have : atI (xs ++ [x]) (-1) = some x := by
    unfold atI ixN
    rw [if_neg (by decide), if_pos (by rw [List.length_append, List.length_singleton]; omega)]
    simp only [Option.bind_some, List.length_append, List.length_singleton]
    rw [show (-1 + ((xs.length + 1 : Nat) : Int)).toNat = xs.length by omega]
    simp
  simp [wAt, this]
theorem zipD_same : ∀ xs : List Dt, ∀ z ∈ zipD xs xs, ∃ a ∈ xs, z = .t [a, a]
  | [], z, h => by simp [zipD] at h
  | x :: xs, z, h => by
    simp only [zipD, List.mem_cons] at h
    rcases h with h | h
    · exact ⟨x, List.mem_cons_self, h⟩
    · obtain ⟨a, h1, h2⟩ := zipD_same xs z h
      exact ⟨a, List.mem_cons_of_mem _ h1, h2⟩
theorem map_true (zs : List Dt) : zs.map (fun _ => Dt.b true) = (zs.map fun _ => true).map .b := by simp
theorem all_true (zs : List Dt) : (zs.map fun _ => true).all id = true := by simp
theorem mem_rngD {lo : Int} {n : Nat} (h : x ∈ rngD lo n) : ∃ i : Nat, i < n ∧ x = .i (lo + i) := by
  simp only [rngD, List.mem_map, List.mem_range] at h
  obtain ⟨i, h1, h2⟩ := h
  exact ⟨i, h1, h2.symm⟩
theorem sIx_pos {n d : Nat} {j : Int} (h : 0 ≤ j) : HT.sIx n d (some j) = min j.toNat n := by
  obtain ⟨m, rfl⟩ := Int.eq_ofNat_of_zero_le h
  exact HT.sIx_nat n d m
theorem cutD_hi (h : 0 ≤ k) : cutD xs none (some k) = xs.take k.toNat := by
  unfold cutD
  rw [sIx_pos h, HT.sIx_none, List.drop_zero, Nat.sub_zero]
  rcases Nat.le_total k.toNat xs.length with q | q
  · rw [Nat.min_eq_left q]
  · rw [Nat.min_eq_right q, List.take_length, List.take_of_length_le q]
theorem cutD_lo (h : 0 ≤ k) : cutD xs (some k) none = xs.drop k.toNat := by
  unfold cutD
  rw [sIx_pos h, HT.sIx_none]
  rcases Nat.le_total k.toNat xs.length with q | q
  · rw [Nat.min_eq_left q, List.take_of_length_le (by simp)]
  · rw [Nat.min_eq_right q, List.drop_length, List.drop_of_length_le q]; simp
theorem cutD_lh (h : 0 ≤ a) (h2 : 0 ≤ b) : cutD xs (some a) (some b) = (xs.drop a.toNat).take (b.toNat - a.toNat) := by
  unfold cutD
  rw [sIx_pos h, sIx_pos h2]
  rcases Nat.le_total a.toNat xs.length with q | q
  · rw [Nat.min_eq_left q]
    rcases Nat.le_total b.toNat xs.length with p | p
    · rw [Nat.min_eq_left p]
    · rw [Nat.min_eq_right p, List.take_of_length_le (by simp), List.take_of_length_le (by simp; omega)]
  · rw [Nat.min_eq_right q, List.drop_length, List.drop_of_length_le q]; simp
theorem enumD_mem {xs : List Dt} {j : Nat} {z : Dt} (h : (enumD 0 xs)[j]? = some z) : ∃ d, xs[j]? = some d ∧ z = .t [.i j, d] := by
  rw [enumD_at, Option.map_eq_some_iff] at h
  obtain ⟨d, h1, h2⟩ := h
  exact ⟨d, h1, by simpa using h2.symm⟩
theorem wSt_i {cs : List Int} {c : Int} {QD : List Dt → Prop} (h0 : 0 ≤ k) (h : k < cs.length) (q : QD ((cs.set k.toNat c).map Dt.i)) : wSt (cs.map Dt.i) k (.i c) QD := by
  obtain ⟨n, rfl⟩ := Int.eq_ofNat_of_zero_le h0
  refine ⟨n, ixN_nat (by simpa using h), ?_⟩
  have e : (cs.set n c).map Dt.i = (cs.map Dt.i).set n (.i c) := by simp [List.map_set]
  have q : QD ((cs.set n c).map Dt.i) := by simpa using q
  rw [← e]; exact q
theorem limI {k : Int} (h : k ≤ 1000) : k ≤ (LIM : Int) := Int.le_trans h (by decide)
end
end Y
namespace Y
open PySem L2 PyProof.Rows
section
variable {f g : Ev → Ou Vl} {s u : Ev → So} {r : Ev} {Q : Vl → Ev → Prop} {Qn Qb Qc : Ev → Prop} {Qr : Vl → Ev → Prop} {i n : Nat} {x y : Dt} {m : Md} {fs : List (Ev → Ou Vl)} {xs ys : List Dt}
@[simp] theorem wE_LstO : wE (mLstO fs) r Q = wH fs r fun xs r1 => (xs.length ≤ LIM ∧ xs.all zfl = true) ∧ Q (.l (xs.map (·.1)), .a) r1 := by
  unfold wE wH
  simp only [mLstO]
  cases evH fs r with
  | ok xs r1 =>
    simp only
    by_cases h : xs.length ≤ LIM ∧ xs.all zfl = true
    · rw [if_pos h]; simp [h]
    · rw [if_neg h]; simp only [h, false_and]
  | ex _ _ _ => rfl
  | no => rfl
def wEx (x : Dt) (m : Md) (y : Dt) (Q : Dt → Prop) : Prop := match x, m, y with
  | .l xs, .t, .l ys => xs.length + ys.length ≤ LIM ∧ Q (.l (xs ++ ys))
  | _, _, _ => False
@[simp] theorem wEx_l {Q : Dt → Prop} : wEx (.l xs) .t (.l ys) Q = (xs.length + ys.length ≤ LIM ∧ Q (.l (xs ++ ys))) := id rfl
@[simp] theorem wS_ext : wS (sExt i f) r Qn Qr Qb Qc = (isL i r = true ∧ wE f r fun y r1 => wG r1[i]? fun x m => wEx x m y.1 fun z => setK r1 i (some (z, .t)) Qn) := by
  unfold wS wE wG setK wEx
  simp only [sExt]
  by_cases h : isL i r = true
  · simp only [h, if_true, true_and, sWith]
    cases f r with
    | ok y r1 =>
      obtain ⟨y, my⟩ := y
      simp only
      cases r1[i]? with
      | none => cases y <;> rfl
      | some o =>
        cases o with
        | none => cases y <;> rfl
        | some x =>
          obtain ⟨x, m⟩ := x
          cases x <;> cases m <;> cases y <;> try rfl
          rename_i xs ys
          by_cases h : xs.length + ys.length ≤ LIM
          · simp [h]
          · simp [h]
    | ex _ _ _ => rfl
    | no => rfl
  · simp [h]
def wPo (x : Dt) (m : Md) (k : Int) (Q : Dt → Dt → Prop) : Prop := match x, m with
  | .l xs, .t => xs.length ≤ LIM ∧ ∃ j y, seqIndex? k xs.length = some j ∧ xs[j]? = some y ∧ Q y (.l (xs.eraseIdx j))
  | _, _ => False
@[simp] theorem wPo_t {k : Int} {Q : Dt → Dt → Prop} : wPo (.l xs) .t k Q = (xs.length ≤ LIM ∧ ∃ j y, seqIndex? k xs.length = some j ∧ xs[j]? = some y ∧ Q y (.l (xs.eraseIdx j))) := id rfl
@[simp] theorem wE_pop : wE (mPop i f) r Q = (isL i r = true ∧ wE f r fun k r1 => match k.1 with
    | .i k => wG r1[i]? fun x m => wPo x m k fun y z => setK r1 i (some (z, .t)) (Q (y, .c))
    | _ => False) := by
  unfold wE wG setK wPo
  simp only [mPop]
  by_cases h : isL i r = true
  · simp only [h, if_true, true_and]
    cases f r with
    | ok k r1 =>
      obtain ⟨k, mk⟩ := k
      cases k with
      | i k =>
        simp only
        cases r1[i]? with
        | none => rfl
        | some o =>
          cases o with
          | none => rfl
          | some x =>
            obtain ⟨x, m⟩ := x
            cases x <;> cases m <;> try rfl
            rename_i xs
            simp only
            by_cases h : xs.length ≤ LIM
            · rw [if_pos h]
              cases hj : seqIndex? k xs.length with
              | none => simp
              | some j =>
                simp only
                cases hy : xs[j]? with
                | none => simp [hy]
                | some y => simp [h, hy]
            · simp [h]
      | _ => rfl
    | ex _ _ _ => rfl
    | no => rfl
  · simp [h]
def wP0 (x : Dt) (m : Md) (Q : Dt → Dt → Prop) : Prop := match x, m with
  | .l xs, .t => ∃ y, xs[xs.length - 1]? = some y ∧ Q y (.l xs.dropLast)
  | _, _ => False
@[simp] theorem wP0_t {Q : Dt → Dt → Prop} : wP0 (.l xs) .t Q = ∃ y, xs[xs.length - 1]? = some y ∧ Q y (.l xs.dropLast) := id rfl
@[simp] theorem wE_pop0 : wE (mPop0 i) r Q = wG r[i]? fun x m => wP0 x m fun y z => setK r i (some (z, .t)) (Q (y, .c)) := by
  unfold wE wG setK wP0
  simp only [mPop0]
  cases r[i]? with
  | none => rfl
  | some o =>
    cases o with
    | none => rfl
    | some x =>
      obtain ⟨x, m⟩ := x
      cases x <;> cases m <;> try rfl
      rename_i xs
      simp only
      cases hy : xs[xs.length - 1]? with
      | none => simp [hy]
      | some y => simp [hy]
/-- indices -/
def wKs : List (Ev → Ou Vl) → Ev → (List Int → Ev → Prop) → Prop
  | [], r, Q => Q [] r
  | f :: fs, r, Q => wKs fs r fun ks r1 => wE f r1 fun k r2 => match k.1 with
    | .i k => Q (ks ++ [k]) r2
    | _ => False
@[simp] theorem wKs_n {Q : List Int → Ev → Prop} : wKs [] r Q = Q [] r := id rfl
@[simp] theorem wKs_c {Q : List Int → Ev → Prop} : wKs (f :: fs) r Q = wKs fs r fun ks r1 => wE f r1 fun k r2 => match k.1 with
    | .i k => Q (ks ++ [k]) r2
    | _ => False := id rfl
/-- an item and its place -/
def wAj (xs : List Dt) (k : Int) (Q : Nat → Dt → Prop) : Prop := ∃ j x, ixN xs.length k = some j ∧ xs[j]? = some x ∧ Q j x
theorem wAj_nat {k : Nat} {Q : Nat → Dt → Prop} : wAj xs (k : Int) Q = ∃ x, xs[k]? = some x ∧ Q k x := by
  unfold wAj
  by_cases h : k < xs.length
  · rw [ixN_nat h]; simp
  · rw [List.getElem?_eq_none (by omega)]
    unfold ixN
    rw [if_pos (by omega)]
    simp [h]
@[simp] theorem wAj_0 {Q : Nat → Dt → Prop} : wAj (x :: xs) 0 Q = Q 0 x := by
  have := @wAj_nat (x :: xs) 0 Q
  simpa using this
@[simp] theorem wAj_1 {x' : Dt} {Q : Nat → Dt → Prop} : wAj (x' :: x :: xs) 1 Q = Q 1 x := by
  have := @wAj_nat (x' :: x :: xs) 1 Q
  simpa using this
@[simp] theorem wAj_2 {x' x2 : Dt} {Q : Nat → Dt → Prop} : wAj (x' :: x2 :: x :: xs) 2 Q = Q 2 x := by
  have := @wAj_nat (x' :: x2 :: x :: xs) 2 Q
  simpa using this
/-- one more at that path -/
def wUp : Dt → List Int → Dt → (Dt → Prop) → Prop
  | .l xs, [], y, Q => xs.length < LIM ∧ Q (.l (xs ++ [y]))
  | .l xs, k :: ks, y, Q => wAj xs k fun j x => wUp x ks y fun x' => Q (.l (xs.set j x'))
  | _, _, _, _ => False
@[simp] theorem wUp_n {Q : Dt → Prop} : wUp (.l xs) [] y Q = (xs.length < LIM ∧ Q (.l (xs ++ [y]))) := id rfl
@[simp] theorem wUp_c {k : Int} {ks : List Int} {Q : Dt → Prop} : wUp (.l xs) (k :: ks) y Q = wAj xs k fun j x => wUp x ks y fun x' => Q (.l (xs.set j x')) := id rfl
def bk : Dt → Nat
  | .t xs => bkL xs
  | .l xs => bkL xs
  | _ => 0
where bkL : List Dt → Nat
  | [] => 0
  | x :: xs => bk x + 1 + bkL xs
def dp : Dt → Nat
  | .t xs => dpL xs + 1
  | .l xs => dpL xs + 1
  | _ => 0
where dpL : List Dt → Nat
  | [] => 0
  | x :: xs => max (dp x) (dpL xs)
end
end Y
namespace Y
open PySem L2 PyProof.Rows
section
variable {f g : Ev → Ou Vl} {r : Ev} {i n : Nat} {a b k : Int} {x y : Dt} {m : Md} {xs ys : List Dt}
def wC2 (xs : List Dt) (Q : Dt → Int → Prop) : Prop := match xs with
  | [x, .i b] => Q x b
  | _ => False
def wC1 (xs : List Dt) (Q : Dt → Prop) : Prop := match xs with
  | [z] => Q z
  | _ => False
@[simp] theorem wC2_i {Q : Dt → Int → Prop} : wC2 [x, .i b] Q = Q x b := id rfl
@[simp] theorem wC1_1 {Q : Dt → Prop} : wC1 [x] Q = Q x := id rfl
@[simp] theorem wE_Ch {p p' : List Dt → Option Vl} {A B C : Am} {Q : Vl → Ev → Prop} : wE (mCh p p' A B C) r Q = wA [A, B] r fun ys r1 => wL (look r1 ys) fun xs => wC2 xs fun x b => wO (p [x, .i b]) fun k _ => match k with
    | .b k => (k = true → wA [C] r1 fun zs r2 => wL (look r2 zs) fun zs => wC1 zs fun z => wO (p' [.i b, z]) fun k _ => match k with
        | .b k => Q (.b k, .c) r2
        | _ => False) ∧ (k = false → Q (.b false, .c) r1)
    | _ => False := by
  unfold wE
  conv => rhs; unfold wA wL wC2
  simp only [mCh]
  cases evA [A, B] r with
  | ok ys r1 =>
    simp only
    cases look r1 ys with
    | none => rfl
    | some xs =>
      simp only
      match xs with
      | [] => rfl
      | [_] => rfl
      | _ :: y :: _ :: _ => cases y <;> rfl
      | [x, .n] => rfl
      | [x, .b _] => rfl
      | [x, .s _] => rfl
      | [x, .t _] => rfl
      | [x, .l _] => rfl
      | [x, .z _] => rfl
      | [x, .m _ _] => rfl
      | [x, .o _ _ _] => rfl
      | [x, .x _ _ _] => rfl
      | [x, .f _] => rfl
      | [x, .k _ _] => rfl
      | [x, .i b] =>
        simp only
        unfold wO
        cases p [x, .i b] with
        | none => rfl
        | some v =>
          obtain ⟨v, mv⟩ := v
          cases v with
          | b k =>
            cases k with
            | false => simp
            | true =>
              simp only [true_implies, Bool.true_eq_false, false_implies, and_true]
              cases evA [C] r1 with
              | ok zs r2 =>
                simp only
                cases look r2 zs with
                | none => rfl
                | some us =>
                  simp only
                  match us with
                  | [] => rfl
                  | _ :: _ :: _ => rfl
                  | [z] =>
                    simp only [wC1_1]
                    cases p' [.i b, z] with
                    | none => rfl
                    | some w =>
                      obtain ⟨w, mw⟩ := w
                      cases w <;> rfl
              | ex _ _ _ => rfl
              | no => rfl
          | _ => rfl
  | ex _ _ _ => rfl
  | no => rfl
theorem cMulL (h1 : -18446744073709551616 < a) (h2 : a < 18446744073709551616) : cMul a b = true := cMul_l (by omega) (by omega)
theorem cMulR (h1 : -18446744073709551616 < b) (h2 : b < 18446744073709551616) : cMul a b = true := cMul_r (by omega) (by omega)
theorem logB (h1 : 0 < b) (h2 : b < 18446744073709551616) : (b.natAbs.log2 < 9000) = True := eq_true (log_ok h1 (by omega))
theorem natB (h1 : -18446744073709551616 < b) (h2 : b < 18446744073709551616) : (b.natAbs < 18446744073709551616) = True := eq_true (by omega)
theorem castN (n : Nat) : ((no_index (OfNat.ofNat n) : Nat) : Int) = OfNat.ofNat n := rfl
theorem castM : ((1000000 : Nat) : Int) = 1000000 := rfl
@[simp] theorem zfl_c : zfl (x, .c) = x.flat := id rfl
@[simp] theorem zfl_lt : zfl (.l xs, .t) = flatL xs := id rfl
@[simp] theorem zfl_a : zfl (x, .a) = true := by simp [zfl]
theorem flat_b (ns : List Bool) : flatL (ns.map .b) = true := by
  induction ns with
  | nil => rfl
  | cons n ns ih => simp [flatL, Dt.flat, ih]
theorem pl_ti {d : Nat} {ns : List Int} (h : ns.length ≤ 1000) : pl (d + 2) (.t (ns.map .i)) = true := by
  simp only [pl, Bool.and_eq_true, decide_eq_true_eq, List.length_map, List.all_eq_true]
  refine ⟨lim3 h, fun x hx => ?_⟩
  obtain ⟨a, _, rfl⟩ := List.mem_map.mp hx
  rfl
theorem pl_t {d : Nat} (hl : xs.length ≤ 1000) (h : ∀ x ∈ xs, pl d x = true) : pl (d + 1) (.t xs) = true := by
  simp only [pl, Bool.and_eq_true, decide_eq_true_eq, List.all_eq_true]
  exact ⟨lim3 hl, h⟩
def isrt (ns : List Int) : List Int := ns.mergeSort fun a b => decide (a ≤ b)
theorem isrt_perm (ns : List Int) : (isrt ns).Perm ns := List.mergeSort_perm _ _
theorem isrt_len (ns : List Int) : (isrt ns).length = ns.length := (isrt_perm ns).length_eq
theorem isrt_mem {ns : List Int} : a ∈ isrt ns ↔ a ∈ ns := (isrt_perm ns).mem_iff
theorem isrt_le (ns : List Int) : (isrt ns).Pairwise (· ≤ ·) := by
  have := List.pairwise_mergeSort (le := fun a b : Int => decide (a ≤ b)) (by intro a b c h1 h2; simp at *; omega) (by intro a b; simp; omega) ns
  exact this.imp fun h => by simpa using h
theorem isrt_id {ns : List Int} (h : ns.Pairwise (· ≤ ·)) : isrt ns = ns := List.mergeSort_of_pairwise (h.imp fun h => by simpa using h)
theorem sort_uniq : ∀ {ns ms : List Int}, ns.Perm ms → ns.Pairwise (· ≤ ·) → ms.Pairwise (· ≤ ·) → ns = ms := fun p h1 h2 => List.Perm.eq_of_pairwise (fun a b _ _ h1 h2 => Int.le_antisymm h1 h2) h1 h2 p
theorem isrt_eq {ns ms : List Int} (p : ms.Perm ns) (h : ms.Pairwise (· ≤ ·)) : isrt ns = ms := sort_uniq ((isrt_perm ns).trans p.symm) (isrt_le ns) h
theorem leD_i : leD (.i a) (.i b) = decide (a ≤ b) := congrFun (congrFun (PySem.W.dataLe_int (id : Int → Int)) a) b
theorem sortD_i (ns : List Int) : sortD (ns.map .i) = (isrt ns).map .i := (List.map_mergeSort (f := Dt.i) (s := leD) fun a _ b _ => leD_i.symm).symm
theorem okSort_i {ns : List Int} (h : ns.length ≤ LIM) : okSort (ns.map .i) = true := by
  simp only [okSort, alikeL, sortable, Bool.and_eq_true, List.all_eq_true, List.mem_map, decide_eq_true_eq, Bool.or_eq_true, List.length_map]
  refine ⟨⟨⟨?_, .inr ?_⟩, ?_⟩, h⟩
  · rintro _ ⟨_, ⟨a, _, rfl⟩, rfl⟩ _ ⟨_, ⟨b, _, rfl⟩, rfl⟩
    rfl
  · rintro _ ⟨_, ⟨a, _, rfl⟩, rfl⟩
    rfl
  · rintro _ ⟨a, _, rfl⟩
    show PyData.depth (.int a) ≤ 50
    simp [PyData.depth]
theorem wO_srtL {ns : List Int} {Q : Dt → Md → Prop} (h : ns.length ≤ 1000) : wO (fSorted [.l (ns.map .i)]) Q = Q (.l ((isrt ns).map .i)) .t := by
  simp only [fSorted, okSort_i (lim3 h), sortD_i]; rfl
theorem wO_srtT {ns : List Int} {Q : Dt → Md → Prop} (h : ns.length ≤ 1000) : wO (fSorted [.t (ns.map .i)]) Q = Q (.l ((isrt ns).map .i)) .t := by
  simp only [fSorted, okSort_i (lim3 h), sortD_i]; rfl
/-- pairs of numbers -/
def pr (p : Int × Int) : Dt := .t [.i p.1, .i p.2]
theorem shp_ti (ns : List Int) : shp (.t (ns.map .i)) = true := by
  have := shp_li ns
  unfold shp SeqAt.shaped at this ⊢
  simpa [toP, PyData.canLay0, PyData.depth] using this
theorem any_i {ns : List Int} : (ns.map Dt.i).any (fun z => eqD z (.i a)) = decide (a ∈ ns) := by
  induction ns with
  | nil => rfl
  | cons n ns ih =>
    rw [List.map_cons, List.any_cons, ih, eqD_i]
    by_cases h : n = a
    · subst h; simp
    · simp [h, Ne.symm h]
theorem wO_inL {ns : List Int} {Q : Dt → Md → Prop} : wO (fInA false [.i a, .l (ns.map .i)]) Q = Q (.b (decide (a ∈ ns))) .c := by
  simp only [fInA, shp_i, shp_li, shp_ti, inL, any_i, Bool.and_self, if_true, Bool.false_eq_true, if_false]; rfl
theorem wO_inT {ns : List Int} {Q : Dt → Md → Prop} : wO (fInA false [.i a, .t (ns.map .i)]) Q = Q (.b (decide (a ∈ ns))) .c := by
  simp only [fInA, shp_i, shp_li, shp_ti, inL, any_i, Bool.and_self, if_true, Bool.false_eq_true, if_false]; rfl
theorem wO_ninL {ns : List Int} {Q : Dt → Md → Prop} : wO (fInA true [.i a, .l (ns.map .i)]) Q = Q (.b (!decide (a ∈ ns))) .c := by
  simp only [fInA, shp_i, shp_li, shp_ti, inL, any_i, Bool.and_self, if_true, Bool.false_eq_true, if_false]; rfl
theorem wO_ninT {ns : List Int} {Q : Dt → Md → Prop} : wO (fInA true [.i a, .t (ns.map .i)]) Q = Q (.b (!decide (a ∈ ns))) .c := by
  simp only [fInA, shp_i, shp_li, shp_ti, inL, any_i, Bool.and_self, if_true, Bool.false_eq_true, if_false]; rfl
theorem eqD_ti (ns ms : List Int) : eqD (.t (ns.map .i)) (.t (ms.map .i)) = decide (ns = ms) := by
  have := eqD_li ns ms
  simpa [eqD, toP, PyData.eqv] using this
theorem wO_neLi {ns ms : List Int} {Q : Dt → Md → Prop} : wO (fNe [.l (ns.map .i), .l (ms.map .i)]) Q = Q (.b (!decide (ns = ms))) .c := by
  rw [wO_neL]; simp [shp_li, eqD_li]
theorem wO_eqTi {ns ms : List Int} {Q : Dt → Md → Prop} : wO (fEq [.t (ns.map .i), .t (ms.map .i)]) Q = Q (.b (decide (ns = ms))) .c := by
  rw [wO_eqT]; simp [shp_ti, eqD_ti]
theorem wO_neL0 {ns : List Int} {Q : Dt → Md → Prop} : wO (fNe [.l (ns.map .i), .l []]) Q = Q (.b (!decide (ns = []))) .c := wO_neLi (ms := [])
theorem wO_eqT0 {ns : List Int} {Q : Dt → Md → Prop} : wO (fEq [.t (ns.map .i), .t []]) Q = Q (.b (decide (ns = []))) .c := wO_eqTi (ms := [])
/-- the greatest -/
theorem wO_maxT {ns : List Int} {Q : Dt → Md → Prop} (h : ns ≠ []) : wO (fMax1 [.t (ns.map .i)]) Q = Q (.i (lmax (ns.headD 0) ns.tail)) .c := by
  cases ns with
  | nil => exact absurd rfl h
  | cons a ns => exact wO_max1T
theorem wO_maxL {ns : List Int} {Q : Dt → Md → Prop} (h : ns ≠ []) : wO (fMax1 [.l (ns.map .i)]) Q = Q (.i (lmax (ns.headD 0) ns.tail)) .c := by
  cases ns with
  | nil => exact absurd rfl h
  | cons a ns => exact wO_max1
theorem wAt_P {P Q : Dt → Prop} (h0 : 0 ≤ k) (h1 : k < xs.length) (hp : ∀ y ∈ xs, P y) (q : ∀ y, P y → Q y) : wAt xs k Q := by
  obtain ⟨n, rfl⟩ := Int.eq_ofNat_of_zero_le h0
  have hn : n < xs.length := by omega
  exact ⟨xs[n], by rw [Y.atI_nat]; simp [hn], q _ (hp _ (List.getElem_mem hn))⟩
/-- .. of numbers of that kind -/
theorem wAt_I {P : Int → Prop} {Q : Dt → Prop} {ns : List Int} (h0 : 0 ≤ k) (h1 : k < ns.length) (hp : ∀ y ∈ ns, P y) (q : ∀ y, P y → Q (.i y)) : wAt (ns.map .i) k Q :=
  wAt_i h0 h1 fun c hc => q c (hp c (List.mem_of_getElem? hc))
/-- comprehensions over rows of numbers; the state stays -/
theorem lc_fI {own : Bool} {vs : List Nat} {t : Vl → Ev → Option Ev} {c : Ev → Ou Bool} {ns : List Int} (p : Int → Bool) (G : Int → Dt) (h : ∀ a ∈ ns, wK (t (.i a, .c) r) fun r1 => wT c r1 fun b r2 => b = p a ∧ (b = false → wipeE r2 vs = r) ∧ (b = true → wE f r2 fun y r3 => y.1 = G a ∧ (own = true → zfl y = true) ∧ wipeE r3 vs = r)) :
    lcL vs t c f own (ns.map .i) r [] = .ok ((ns.filter p).map G) r := by
  have := lc_filter (vs := vs) (t := t) (c := c) (f := f) (own := own) (r := r) (fun x => match x with | .i w => p w | _ => false) (fun x => match x with | .i w => G w | _ => x) (ns.map .i) [] (fun x hx => by
    obtain ⟨a, ha, rfl⟩ := List.mem_map.mp hx
    exact h a ha)
  rw [this, List.nil_append, List.filter_map, List.map_map]
  rfl
theorem lc_mI {own : Bool} {vs : List Nat} {t : Vl → Ev → Option Ev} {c : Ev → Ou Bool} {ns : List Int} (G : Int → Dt) (h : ∀ a ∈ ns, wK (t (.i a, .c) r) fun r1 => wT c r1 fun b r2 => b = true ∧ wE f r2 fun y r3 => y.1 = G a ∧ (own = true → zfl y = true) ∧ wipeE r3 vs = r) :
    lcL vs t c f own (ns.map .i) r [] = .ok (ns.map G) r := by
  have := lc_map (vs := vs) (t := t) (c := c) (f := f) (own := own) (r := r) (fun x => match x with | .i w => G w | _ => x) (ns.map .i) [] (fun x hx => by
    obtain ⟨a, ha, rfl⟩ := List.mem_map.mp hx
    exact h a ha)
  rw [this, List.nil_append, List.map_map]
  rfl
theorem cutD_sub {l h : Option Int} : (cutD xs l h).Sublist xs := (List.take_sublist _ _).trans (List.drop_sublist _ _)
/-- a comprehension whose state goes on -/
theorem lc_inv {own : Bool} {vs : List Nat} {t : Vl → Ev → Option Ev} {c : Ev → Ou Bool} {Q : List Dt → Ev → Prop} (P : Nat → Ev → List Dt → Prop) (h0 : P 0 r [])
    (hs : ∀ i x r acc, xs[i]? = some x → P i r acc → wK (t (x, .c) r) fun r1 => wT c r1 fun b r2 => (b = false → P (i + 1) (wipeE r2 vs) acc) ∧ (b = true → wE f r2 fun y r3 => (own = true → zfl y = true) ∧ P (i + 1) (wipeE r3 vs) (acc ++ [y.1])))
    (hq : ∀ ys r2, P xs.length r2 ys → Q ys r2) : ∃ ys r2, lcL vs t c f own xs r [] = .ok ys r2 ∧ Q ys r2 := by
  have go : ∀ (zs : List Dt) (k : Nat) (r : Ev) (acc : List Dt), (∀ i, zs[i]? = xs[k + i]?) → k + zs.length = xs.length → P k r acc → ∃ ys r2, lcL vs t c f own zs r acc = .ok ys r2 ∧ Q ys r2 := by
    intro zs
    induction zs with
    | nil =>
      intro k r acc _ hk hp
      have : k = xs.length := by simpa using hk
      subst this
      exact ⟨acc, r, rfl, hq _ _ hp⟩
    | cons z zs ih =>
      intro k r acc hz hk hp
      have h1 := hs k z r acc (by have := hz 0; simpa using this.symm) hp
      have nx : ∀ r3 acc3, P (k + 1) r3 acc3 → ∃ ys r2, lcL vs t c f own zs r3 acc3 = .ok ys r2 ∧ Q ys r2 := fun r3 acc3 h3 => ih (k + 1) r3 acc3 (fun i => by
        have := hz (i + 1)
        rw [show k + (i + 1) = k + 1 + i by omega] at this
        simpa using this) (by simp at hk; omega) h3
      unfold wK at h1
      simp only [lcL]
      cases ht : t (z, .c) r with
      | none => rw [ht] at h1; exact h1.elim
      | some r1 =>
        rw [ht] at h1
        simp only at h1 ⊢
        unfold wT at h1
        cases hc : c r1 with
        | ok b r2 =>
          rw [hc] at h1
          obtain ⟨h2, h3⟩ := h1
          cases b with
          | false => exact nx _ _ (h2 rfl)
          | true =>
            have h3 := h3 rfl
            unfold wE at h3
            simp only
            cases hf : f r2 with
            | ok y r3 =>
              rw [hf] at h3
              obtain ⟨y, my⟩ := y
              obtain ⟨h4, h5⟩ := h3
              simp only
              rw [if_neg (by cases own <;> simp_all)]
              exact nx _ _ h5
            | ex _ _ _ => rw [hf] at h3; exact h3.elim
            | no => rw [hf] at h3; exact h3.elim
        | ex _ _ _ => rw [hc] at h1; exact h1.elim
        | no => rw [hc] at h1; exact h1.elim
  exact go xs 0 r [] (fun i => by simp) (by simp) h0
end
end Y
namespace Y
open PySem L2 PyProof.Rows
section
variable {r : Ev} {i n : Nat} {a b k : Int} {x y : Dt} {m : Md} {xs ys : List Dt} {α : Type}
@[simp] theorem wO_mulT {Q : Dt → Md → Prop} : wO (fMul [.t xs, .i k]) Q = ((xs ≠ [] ∧ -1000000 ≤ k ∧ k ≤ 1000 ∧ xs.length ≤ 1000) ∧ Q (.t (List.replicate k.toNat xs).flatten) .c) := by
  simp only [fMul, fMulI, fIC, fRepL, fRepT, Option.none_or]
  by_cases h : xs ≠ [] ∧ -1000000 ≤ k ∧ k ≤ 1000 ∧ xs.length ≤ 1000
  · rw [if_pos h]; simp [h]
  · rw [if_neg h]; simp only [h, false_and, wO_none]
@[simp] theorem wL_enumT {QL : List Dt → Prop} : wL (sEnum [.t xs]) QL = QL (enumD 0 xs) := id rfl
theorem wAt_M {f : α → Dt} {us : List α} {Q : Dt → Prop} (h0 : 0 ≤ k) (h1 : k < us.length) (q : ∀ x, us[k.toNat]? = some x → Q (f x)) : wAt (us.map f) k Q := by
  obtain ⟨n, rfl⟩ := Int.eq_ofNat_of_zero_le h0
  have hn : n < us.length := by omega
  exact ⟨f us[n], by rw [Y.atI_nat]; simp [hn], q _ (by simp [hn])⟩
theorem eqD_nl : eqD .n (.l xs) = false := by simp [eqD, toP, PyData.eqv]
@[simp] theorem wO_eqN {Q : Dt → Md → Prop} : wO (fEq [.n, .l []]) Q = Q (.b false) .c := by
  rw [wO_eq fun z h => by cases h]; simp only [eqD_nl, show shp (.l []) = true from shp_li [], show shp .n = true from rfl, true_and]
def rm (r : List Int) : Dt := .t (r.map .i)
def lm (r : List Int) : Dt := .l (r.map .i)
/-- a house -/
def hs (R : List (List Int)) (D : List Int) : Dt := .t [.t (R.map rm), .t (D.map .i)]
/-- .. told by lists -/
def hl (R : List (List Int)) (D : List Int) : Dt := .l [.l (R.map lm), .l (D.map .i)]
theorem flat_t (f : α → List Dt) (h : ∀ x, flatL (f x) = true) (us : List α) : flatL (us.map fun x => .t (f x)) = true := by
  induction us with
  | nil => rfl
  | cons u us ih => simp [flatL, Dt.flat, h, ih]
theorem flat_rm (R : List (List Int)) : flatL (R.map rm) = true := flat_t (fun r : List Int => r.map Dt.i) flat_i R
theorem flat_pr (ps : List (Int × Int)) : flatL (ps.map pr) = true := flat_t (fun p : Int × Int => [Dt.i p.1, Dt.i p.2]) (fun _ => rfl) ps
theorem flat_hs (R : List (List Int)) (D : List Int) : (hs R D).flat = true := by
  simp [hs, Dt.flat, flatL, flat_rm, flat_i]
@[simp] theorem flat_pr1 (p : Int × Int) : (pr p).flat = true := rfl
@[simp] theorem wM_hs {Q : Ev → Prop} {ag : List Ag} {R : List (List Int)} {D : List Int} : wM (hs R D, .c) ag r Q = Q r := wM_f (y := (hs R D, .c)) (by simp only [zfl, flat_hs])
@[simp] theorem wM_pr {Q : Ev → Prop} {ag : List Ag} {p : Int × Int} : wM (pr p, .c) ag r Q = Q r := wM_f (y := (pr p, .c)) rfl
theorem pl_rm {d : Nat} {r : List Int} (h : r.length ≤ 1000) : pl (d + 2) (rm r) = true := pl_ti h
theorem pl_hs {d : Nat} {R : List (List Int)} {D : List Int} (h : ∀ r ∈ R, r.length ≤ 1000) (hR : R.length ≤ 1000) (hD : D.length ≤ 1000) : pl (d + 4) (hs R D) = true := by
  refine pl_t (by simp) fun x hx => ?_
  simp only [List.mem_cons, List.not_mem_nil, or_false] at hx
  rcases hx with rfl | rfl
  · refine pl_t (by simpa using hR) fun x hx => ?_
    obtain ⟨r, hr, rfl⟩ := List.mem_map.mp hx
    exact pl_rm (h r hr)
  · exact pl_ti hD
/-- a house in which each of the folk stands once -/
structure Hou (folk : List Int) (d : Nat) (R : List (List Int)) (D : List Int) : Prop where
  lr : R.length = d + 1
  ld : D.length = d
  perm : R.flatten.Perm folk
  srt : ∀ r ∈ R, r.Pairwise (· < ·)
  bd : ∀ m ∈ D, 0 ≤ m ∧ m < 2 ^ 63
/-- folk, drawn -/
structure Fk (folk : List Int) : Prop where
  srt : folk.Pairwise (· < ·)
  bd : ∀ w ∈ folk, 1 ≤ w ∧ w < 2 ^ 62
  len : folk.length ≤ 60
theorem Fk.nd {folk : List Int} (f : Fk folk) : folk.Nodup := f.srt.imp fun h => by omega
theorem Hou.mem {folk : List Int} {d : Nat} {R : List (List Int)} {D : List Int} (h : Hou folk d R D) {r : List Int} (hr : r ∈ R) {w : Int} (hw : w ∈ r) : w ∈ folk := h.perm.mem_iff.mp (List.mem_flatten_of_mem hr hw)
theorem Hou.rlen {folk : List Int} {d : Nat} {R : List (List Int)} {D : List Int} (h : Hou folk d R D) {r : List Int} (hr : r ∈ R) : r.length ≤ folk.length := by
  rw [← h.perm.length_eq]
  exact (List.sublist_flatten_of_mem hr).length_le
/-- the house behind a going by the k-th door (from 0) -/
def behR (R : List (List Int)) (w : Int) (k : Nat) : List (List Int) :=
  let b := if w ∈ R.getD k [] then k else k + 1
  let e := if w ∈ R.getD k [] then k + 1 else k
  (R.set b ((R.getD b []).filter fun v => decide (v ≠ w))).set e (isrt ((R.getD e []) ++ [w]))
theorem setp {x y : List Int} : ∀ {R : List (List Int)} {i : Nat}, R[i]? = some x → (x ++ (R.set i y).flatten).Perm (y ++ R.flatten)
  | [], _, h => by simp at h
  | r :: R, 0, h => by
    simp at h; subst h
    simp only [List.set_cons_zero, List.flatten_cons]
    rw [← List.append_assoc, ← List.append_assoc]
    exact List.perm_append_comm.append_right _
  | r :: R, i + 1, h => by
    have ih := setp (y := y) (R := R) (i := i) (by simpa using h)
    simp only [List.set_cons_succ, List.flatten_cons]
    calc (x ++ (r ++ (R.set i y).flatten)).Perm (r ++ (x ++ (R.set i y).flatten)) := by
            rw [← List.append_assoc, ← List.append_assoc]; exact List.perm_append_comm.append_right _
      _ |>.Perm (r ++ (y ++ R.flatten)) := ih.append_left r
      _ |>.Perm (y ++ (r ++ R.flatten)) := by
            rw [← List.append_assoc, ← List.append_assoc]; exact List.perm_append_comm.append_right _
theorem Hou.move {folk : List Int} {d : Nat} {R : List (List Int)} {D : List Int} (f : Fk folk) (h : Hou folk d R D) {w : Int} {b e : Nat} {rb re : List Int} (hbe : b ≠ e) (hb : R[b]? = some rb) (he : R[e]? = some re) (hw : w ∈ rb) {D' : List Int} (hl : D'.length = d) (hd : ∀ m ∈ D', 0 ≤ m ∧ m < 2 ^ 63) : Hou folk d ((R.set b (rb.filter fun v => decide (v ≠ w))).set e (isrt (re ++ [w]))) D' := by
  have hp1 := setp (y := rb.filter fun v => decide (v ≠ w)) hb
  have he2 : (R.set b (rb.filter fun v => decide (v ≠ w)))[e]? = some re := by rw [List.getElem?_set_ne hbe]; exact he
  have hp2 := setp (y := isrt (re ++ [w])) he2
  generalize hS : R.set b (rb.filter fun v => decide (v ≠ w)) = S at hp1 hp2 ⊢
  have hp3 : (re ++ (S.set e (isrt (re ++ [w]))).flatten).Perm (re ++ ([w] ++ S.flatten)) := by
    refine hp2.trans ?_
    rw [← List.append_assoc]
    exact (isrt_perm _).append_right _
  have hp4 := (List.perm_append_left_iff re).mp hp3
  have ndb : rb.Nodup := (h.srt rb (List.mem_of_getElem? hb)).imp fun h => by omega
  have ef : rb.filter (fun v => decide (v ≠ w)) = rb.erase w := by
    rw [List.Nodup.erase_eq_filter ndb]
    refine List.filter_congr fun v _ => ?_
    by_cases hv : v = w <;> simp [hv]
  have hp5 : rb.Perm (w :: rb.filter fun v => decide (v ≠ w)) := by rw [ef]; exact List.perm_cons_erase hw
  have hp6 : ((rb.filter fun v => decide (v ≠ w)) ++ ([w] ++ S.flatten)).Perm ((rb.filter fun v => decide (v ≠ w)) ++ R.flatten) := by
    refine List.Perm.trans ?_ hp1
    refine List.Perm.trans ?_ (hp5.append_right _).symm
    rw [← List.append_assoc, List.cons_append, ← List.singleton_append (l := _ ++ _), ← List.append_assoc]
    exact List.perm_append_comm.append_right _
  have hp7 := (List.perm_append_left_iff _).mp hp6
  have hp := (hp4.trans hp7).trans h.perm
  have nd := hp.nodup_iff.mpr f.nd
  refine ⟨by rw [List.length_set, ← hS, List.length_set]; exact h.lr, hl, hp, fun r hr => ?_, hd⟩
  rcases List.mem_or_eq_of_mem_set hr with hr2 | rfl
  · rw [← hS] at hr2
    rcases List.mem_or_eq_of_mem_set hr2 with hr3 | rfl
    · exact h.srt r hr3
    · exact (h.srt rb (List.mem_of_getElem? hb)).filter _
  · have := (isrt_le (re ++ [w])).and (nd.sublist (List.sublist_flatten_of_mem hr))
    exact this.imp fun h => by omega
theorem Hou.beh {folk : List Int} {d : Nat} {R : List (List Int)} {D : List Int} (f : Fk folk) (h : Hou folk d R D) {w : Int} {k : Nat} (hk : k < d) (hw : w ∈ R.getD k [] ∨ w ∈ R.getD (k + 1) []) : Hou folk d (behR R w k) (D.set k w) := by
  have hlr := h.lr
  have hld := h.ld
  have e0 : R[k]? = some (R.getD k []) := by rw [List.getD_eq_getElem?_getD, List.getElem?_eq_getElem (by omega)]; rfl
  have e1 : R[k + 1]? = some (R.getD (k + 1) []) := by rw [List.getD_eq_getElem?_getD, List.getElem?_eq_getElem (by omega)]; rfl
  have hwf : w ∈ folk := by
    rcases hw with hw | hw
    · exact h.mem (List.mem_of_getElem? e0) hw
    · exact h.mem (List.mem_of_getElem? e1) hw
  have hD : ∀ m ∈ D.set k w, 0 ≤ m ∧ m < 2 ^ 63 := by
    intro m hm
    rcases List.mem_or_eq_of_mem_set hm with hm | rfl
    · exact h.bd m hm
    · have := f.bd m hwf; omega
  unfold behR
  by_cases c : w ∈ R.getD k []
  · simp only [if_pos c]
    exact h.move f (by omega) e0 e1 c (by rw [List.length_set]; exact hld) hD
  · simp only [if_neg c]
    exact h.move f (by omega) e1 e0 (hw.resolve_left c) (by rw [List.length_set]; exact hld) hD
theorem lc_mM' {own : Bool} {vs : List Nat} {t : Vl → Ev → Option Ev} {c : Ev → Ou Bool} {fe : Ev → Ou Vl} {f : α → Dt} (G : α → Dt) : ∀ (us : List α) (acc : List Dt), (∀ u ∈ us, wK (t (f u, .c) r) fun r1 => wT c r1 fun b r2 => b = true ∧ wE fe r2 fun y r3 => y.1 = G u ∧ (own = true → zfl y = true) ∧ wipeE r3 vs = r) → lcL vs t c fe own (us.map f) r acc = .ok (acc ++ us.map G) r
  | [], acc, _ => by simp [lcL]
  | x :: xs, acc, h => by
    have h1 := h x List.mem_cons_self
    unfold wK at h1
    simp only [List.map_cons, lcL]
    cases ht : t (f x, .c) r with
    | none => rw [ht] at h1; exact h1.elim
    | some r1 =>
      rw [ht] at h1
      simp only at h1 ⊢
      unfold wT at h1
      cases hc : c r1 with
      | ok b r2 =>
        rw [hc] at h1
        obtain ⟨rfl, h1⟩ := h1
        simp only
        unfold wE at h1
        cases hf : fe r2 with
        | ok y r3 =>
          rw [hf] at h1
          obtain ⟨y, my⟩ := y
          obtain ⟨e1, e2, e3⟩ := h1
          simp only at e1 ⊢
          subst e1
          rw [e3, if_neg (by cases own <;> simp_all), lc_mM' G xs _ fun z hz => h z (List.mem_cons_of_mem _ hz)]
          simp
        | ex _ _ _ => rw [hf] at h1; exact h1.elim
        | no => rw [hf] at h1; exact h1.elim
      | ex _ _ _ => rw [hc] at h1; exact h1.elim
      | no => rw [hc] at h1; exact h1.elim
theorem lc_mM {own : Bool} {vs : List Nat} {t : Vl → Ev → Option Ev} {c : Ev → Ou Bool} {fe : Ev → Ou Vl} {f : α → Dt} (G : α → Dt) {us : List α} (h : ∀ u ∈ us, wK (t (f u, .c) r) fun r1 => wT c r1 fun b r2 => b = true ∧ wE fe r2 fun y r3 => y.1 = G u ∧ (own = true → zfl y = true) ∧ wipeE r3 vs = r) : lcL vs t c fe own (us.map f) r [] = .ok (us.map G) r := by
  simpa using lc_mM' G us [] h
theorem lc_fM' {own : Bool} {vs : List Nat} {t : Vl → Ev → Option Ev} {c : Ev → Ou Bool} {fe : Ev → Ou Vl} {f : α → Dt} (C : α → Bool) (G : α → Dt) : ∀ (us : List α) (acc : List Dt), (∀ x ∈ us, wK (t (f x, .c) r) fun r1 => wT c r1 fun b r2 => b = C x ∧ (b = false → wipeE r2 vs = r) ∧ (b = true → wE fe r2 fun y r3 => y.1 = G x ∧ (own = true → zfl y = true) ∧ wipeE r3 vs = r)) → lcL vs t c fe own (us.map f) r acc = .ok (acc ++ (us.filter C).map G) r
  | [], acc, _ => by simp [lcL]
  | x :: xs, acc, h => by
    have h1 := h x List.mem_cons_self
    unfold wK at h1
    simp only [List.map_cons, lcL]
    cases ht : t (f x, .c) r with
    | none => rw [ht] at h1; exact h1.elim
    | some r1 =>
      rw [ht] at h1
      simp only at h1 ⊢
      unfold wT at h1
      cases hc : c r1 with
      | ok b r2 =>
        rw [hc] at h1
        obtain ⟨h2, h3, h4⟩ := h1
        cases b with
        | false =>
          simp only
          rw [h3 rfl, lc_fM' C G xs acc fun z hz => h z (List.mem_cons_of_mem _ hz)]
          simp [← h2]
        | true =>
          simp only
          have h4 := h4 rfl
          unfold wE at h4
          cases hf : fe r2 with
          | ok y r3 =>
            rw [hf] at h4
            obtain ⟨y, my⟩ := y
            obtain ⟨e1, e2, e3⟩ := h4
            simp only at e1 ⊢
            subst e1
            rw [e3, if_neg (by cases own <;> simp_all), lc_fM' C G xs _ fun z hz => h z (List.mem_cons_of_mem _ hz)]
            simp [← h2]
          | ex _ _ _ => rw [hf] at h4; exact h4.elim
          | no => rw [hf] at h4; exact h4.elim
      | ex _ _ _ => rw [hc] at h1; exact h1.elim
      | no => rw [hc] at h1; exact h1.elim
theorem lc_fM {own : Bool} {vs : List Nat} {t : Vl → Ev → Option Ev} {c : Ev → Ou Bool} {fe : Ev → Ou Vl} {f : α → Dt} (C : α → Bool) (G : α → Dt) {us : List α} (h : ∀ x ∈ us, wK (t (f x, .c) r) fun r1 => wT c r1 fun b r2 => b = C x ∧ (b = false → wipeE r2 vs = r) ∧ (b = true → wE fe r2 fun y r3 => y.1 = G x ∧ (own = true → zfl y = true) ∧ wipeE r3 vs = r)) : lcL vs t c fe own (us.map f) r [] = .ok ((us.filter C).map G) r := by
  simpa using lc_fM' C G us [] h
/-- folk in rooms -/
structure Pt (c : Nat) (ws : List Int) (R : List (List Int)) : Prop where
  lr : R.length = c
  perm : R.flatten.Perm ws
  srt : ∀ r ∈ R, r.Pairwise (· < ·)
theorem Pt.nil (c : Nat) : Pt c [] (List.replicate c []) := ⟨by simp, by simp, fun r hr => by rw [(List.mem_replicate.mp hr).2]; exact .nil⟩
theorem Pt.next {folk : List Int} {c k j : Nat} {R : List (List Int)} {w : Int} {r : List Int} (f : Fk folk) (h : Pt c (folk.take k) R) (hw : folk[k]? = some w) (hr : R[j]? = some r) : Pt c (folk.take (k + 1)) (R.set j (r ++ [w])) := by
  have hk := (List.getElem?_eq_some_iff.mp hw).1
  have ew : folk[k] = w := (List.getElem?_eq_some_iff.mp hw).2
  have et : folk.take (k + 1) = folk.take k ++ [w] := by rw [List.take_succ, hw]; rfl
  refine ⟨by rw [List.length_set]; exact h.lr, ?_, fun r' hr' => ?_⟩
  · have hp := setp (y := r ++ [w]) hr
    rw [List.append_assoc] at hp
    have hp2 := (List.perm_append_left_iff r).mp hp
    rw [et]
    exact hp2.trans ((List.perm_append_comm).trans (h.perm.append_right _))
  · rcases List.mem_or_eq_of_mem_set hr' with hr' | rfl
    · exact h.srt r' hr'
    · refine List.pairwise_append.mpr ⟨h.srt r (List.mem_of_getElem? hr), by simp, fun a ha b hb => ?_⟩
      rw [List.mem_singleton.mp hb]
      have ha2 : a ∈ folk.take k := h.perm.mem_iff.mp (List.mem_flatten_of_mem (List.mem_of_getElem? hr) ha)
      have hs := f.srt
      rw [← List.take_append_drop (k + 1) folk, et, List.append_assoc] at hs
      exact (List.pairwise_append.mp hs).2.2 a ha2 w (by simp)
theorem Pt.rlen {c : Nat} {ws : List Int} {R : List (List Int)} (h : Pt c ws R) {r : List Int} (hr : r ∈ R) : r.length ≤ ws.length := by
  rw [← h.perm.length_eq]
  exact (List.sublist_flatten_of_mem hr).length_le
theorem Pt.hou {folk : List Int} {d : Nat} {R : List (List Int)} {D : List Int} (h : Pt (d + 1) folk R) (hl : D.length = d) (hd : ∀ m ∈ D, 0 ≤ m ∧ m < 2 ^ 63) : Hou folk d R D := ⟨h.lr, hl, h.perm, h.srt, hd⟩
theorem set_getD {D : List α} {k j : Nat} {w z : α} (h : k < D.length) : (D.set k w).getD j z = if j = k then w else D.getD j z := by
  simp only [List.getD_eq_getElem?_getD, List.getElem?_set]
  by_cases c : k = j
  · subst c; simp [h]
  · simp [c, show ¬ j = k from fun e => c e.symm]
theorem beh_other {R : List (List Int)} {w : Int} {k i : Nat} (hk : k + 1 < R.length) (h1 : i ≠ k) (h2 : i ≠ k + 1) : (behR R w k).getD i [] = R.getD i [] := by
  unfold behR
  by_cases c : w ∈ R.getD k []
  · simp only [if_pos c]
    rw [set_getD (by rw [List.length_set]; omega), set_getD (by omega), if_neg h2, if_neg h1]
  · simp only [if_neg c]
    rw [set_getD (by rw [List.length_set]; omega), set_getD (by omega), if_neg h1, if_neg h2]
theorem beh_forth {R : List (List Int)} {w : Int} {k : Nat} (hk : k + 1 < R.length) (c : w ∈ R.getD k []) : w ∈ (behR R w k).getD (k + 1) [] := by
  unfold behR
  simp only [if_pos c]
  rw [set_getD (by rw [List.length_set]; omega), if_pos rfl, isrt_mem]
  simp
theorem beh_back {R : List (List Int)} {w : Int} {k : Nat} (hk : k + 1 < R.length) (c : ¬ w ∈ R.getD k []) : w ∈ (behR R w k).getD k [] := by
  unfold behR
  simp only [if_neg c]
  rw [set_getD (by rw [List.length_set]; omega), if_pos rfl, isrt_mem]
  simp
/-- nobody stands in two rooms -/
theorem Hou.one {folk : List Int} {d : Nat} {R : List (List Int)} {D : List Int} (f : Fk folk) (h : Hou folk d R D) {w : Int} : ∀ {i j : Nat}, i < j → w ∈ R.getD i [] → w ∈ R.getD j [] → False := by
  have nd : R.flatten.Nodup := h.perm.nodup_iff.mpr f.nd
  have pw := (List.pairwise_flatten.mp nd).2
  intro i j hij h1 h2
  have li : i < R.length := by
    refine Nat.lt_of_not_le fun c => ?_
    rw [List.getD_eq_getElem?_getD, List.getElem?_eq_none c] at h1; simp at h1
  have lj : j < R.length := by
    refine Nat.lt_of_not_le fun c => ?_
    rw [List.getD_eq_getElem?_getD, List.getElem?_eq_none c] at h2; simp at h2
  have e1 : R.getD i [] = R[i] := by rw [List.getD_eq_getElem?_getD, List.getElem?_eq_getElem li]; rfl
  have e2 : R.getD j [] = R[j] := by rw [List.getD_eq_getElem?_getD, List.getElem?_eq_getElem lj]; rfl
  rw [e1] at h1
  rw [e2] at h2
  exact List.pairwise_iff_getElem.mp pw i j li lj hij w h1 w h2 rfl
/-- what it means that a going is let -/
def Let (R : List (List Int)) (D : List Int) (w : Int) (k : Nat) : Prop := (w ∈ R.getD k [] ∧ D.getD k 0 < w) ∨ (¬ w ∈ R.getD k [] ∧ w ∈ R.getD (k + 1) [] ∧ w < D.getD k 0)
theorem Let.hou {folk : List Int} {d : Nat} {R : List (List Int)} {D : List Int} (f : Fk folk) (h : Hou folk d R D) {w : Int} {k : Nat} (hk : k < d) (l : Let R D w k) : Hou folk d (behR R w k) (D.set k w) := by
  refine h.beh f hk ?_
  rcases l with l | l
  · exact .inl l.1
  · exact .inr l.2.1
@[simp] theorem wE_Lc2 {vs vs1 : List Nat} {s s1 : Ev → Ou (List Dt)} {t t1 : Vl → Ev → Option Ev} {c c1 : Ev → Ou Bool} {f : Ev → Ou Vl} {Q : Vl → Ev → Prop} : wE (mLc2 vs vs1 s t c s1 t1 c1 f) r Q = wI s r fun xs r1 => ∃ ys r2, lc2L vs vs1 t c s1 t1 c1 f xs (wipeE r1 vs) [] = .ok ys r2 ∧ Q (.l ys, .t) (rsE r1 vs r2) := by
  unfold wE wI
  simp only [mLc2]
  cases s r with
  | ok xs r1 =>
    simp only
    cases e : lc2L vs vs1 t c s1 t1 c1 f xs (wipeE r1 vs) [] with
    | ok ys r2 =>
      simp only [eq_iff_iff]
      exact ⟨fun z => ⟨ys, r2, rfl, z⟩, fun ⟨ys', r', h1, h2⟩ => by cases h1; exact h2⟩
    | ex _ _ _ => simp
    | no => simp
  | ex _ _ _ => rfl
  | no => rfl
end
end Y
namespace Y
open PySem L2 PyProof.Rows
/-- by twos: who of a rising list has p -/
def hv (p : Int → Bool) : List Int → Int
  | [] => 0
  | v :: vs => (if p v then 1 else 0) + 2 * hv p vs
/-- two to the power of how many of a rising list are below -/
def hx (m : Int) : List Int → Int
  | [] => 1
  | v :: vs => if m ≤ v then 1 else 2 * hx m vs
theorem hv_0 (p : Int → Bool) : ∀ L, 0 ≤ hv p L
  | [] => by simp [hv]
  | v :: vs => by have := hv_0 p vs; simp only [hv]; split <;> omega
theorem hv_hi (p : Int → Bool) : ∀ L, hv p L + 1 ≤ 2 ^ L.length
  | [] => by simp [hv]
  | v :: vs => by
    have := hv_hi p vs
    simp only [hv, List.length_cons, Int.pow_succ]
    split <;> omega
theorem hx_1 (m : Int) : ∀ L, 1 ≤ hx m L
  | [] => by simp [hx]
  | v :: vs => by have := hx_1 m vs; simp only [hx]; split <;> omega
theorem hv_same {p p' : Int → Bool} : ∀ {L : List Int}, (∀ v ∈ L, p' v = p v) → hv p' L = hv p L
  | [], _ => rfl
  | v :: vs, h => by simp only [hv, h v List.mem_cons_self, hv_same fun u hu => h u (List.mem_cons_of_mem _ hu)]
theorem hv_set {p p' : Int → Bool} {u : Int} : ∀ {L : List Int}, L.Pairwise (· < ·) → u ∈ L → (∀ v, v ≠ u → p' v = p v) → p u = false → p' u = true → hv p' L = hv p L + hx u L
  | [], _, hu, _, _, _ => nomatch hu
  | v :: vs, hs, hu, ho, h0, h1 => by
    obtain ⟨hs1, hs2⟩ := List.pairwise_cons.mp hs
    by_cases e : u = v
    · subst e
      have := hv_same (p := p) (p' := p') (L := vs) fun z hz => ho z (by have := hs1 z hz; omega)
      simp only [hv, hx, h0, h1, this, Int.le_refl, if_true, Bool.false_eq_true, if_false]
      omega
    · have hu' : u ∈ vs := (List.mem_cons.mp hu).resolve_left e
      have ih := hv_set hs2 hu' ho h0 h1
      have := hs1 u hu'
      have n : ¬ u ≤ v := by omega
      simp only [hv, hx, ho v (Ne.symm e), if_neg n, ih]
      omega
theorem hx_dbl {m u : Int} : ∀ {L : List Int}, L.Pairwise (· < ·) → u ∈ L → u < m → 2 * hx u L ≤ hx m L
  | [], _, hu, _ => nomatch hu
  | v :: vs, hs, hu, hm => by
    obtain ⟨hs1, hs2⟩ := List.pairwise_cons.mp hs
    by_cases e : u = v
    · subst e
      have n : ¬ m ≤ u := by omega
      have := hx_1 m vs
      simp only [hx, Int.le_refl, if_true, if_neg n]
      omega
    · have hu' : u ∈ vs := (List.mem_cons.mp hu).resolve_left e
      have ih := hx_dbl hs2 hu' hm
      have := hs1 u hu'
      have n : ¬ u ≤ v := by omega
      have n2 : ¬ m ≤ v := by omega
      simp only [hx, if_neg n, if_neg n2]
      omega
/-- one going by a door: p who is beyond, m what it remembers -/
structure DS (p : Int → Bool) (m : Int) (p' : Int → Bool) (m' u : Int) : Prop where
  mem : m' = u
  oth : ∀ v, v ≠ u → p' v = p v
  go : (p u = false ∧ p' u = true ∧ m < u) ∨ (p u = true ∧ p' u = false ∧ u < m)
def gp (F : List Int) (p : Int → Bool) (m w : Int) : Int := if m ≤ w then hv p (F.filter fun v => decide (w < v)) else hv p (F.filter fun v => decide (w < v)) - hx m (F.filter fun v => decide (w < v))
/-- how often one has gone, at the most -/
def psi (F : List Int) (p : Int → Bool) (m w : Int) : Int := 2 * max (-1) (gp F p m w) + (if p w then 1 else 0) + 2
theorem gp_hi (F : List Int) (p : Int → Bool) (m w : Int) : gp F p m w + 1 ≤ 2 ^ (F.filter fun v => decide (w < v)).length := by
  have h1 := hv_hi p (F.filter fun v => decide (w < v))
  have h2 := hx_1 m (F.filter fun v => decide (w < v))
  unfold gp
  split <;> omega
theorem psi_0 (F : List Int) (p : Int → Bool) (m w : Int) : 0 ≤ psi F p m w := by
  unfold psi
  split <;> omega
theorem psi_hi (F : List Int) (p : Int → Bool) (m w : Int) : psi F p m w ≤ 2 * 2 ^ (F.filter fun v => decide (w < v)).length + 1 := by
  have h1 := gp_hi F p m w
  have h2 : (1 : Int) ≤ 2 ^ (F.filter fun v => decide (w < v)).length := Int.pow_pos (by decide)
  unfold psi
  split <;> omega
theorem psi_step {F : List Int} (hF : F.Pairwise (· < ·)) {p p' : Int → Bool} {m m' u : Int} (hu : u ∈ F) (s : DS p m p' m' u) (w : Int) : psi F p m w + (if u = w then 1 else 0) ≤ psi F p' m' w := by
  have hL : (F.filter fun v => decide (w < v)).Pairwise (· < ·) := hF.sublist List.filter_sublist
  have mL : ∀ v, v ∈ (F.filter fun v => decide (w < v)) ↔ v ∈ F ∧ w < v := fun v => by simp [List.mem_filter]
  unfold psi gp
  generalize (F.filter fun v => decide (w < v)) = L at hL mL
  have hx1 := hx_1 m L
  have hv0 := hv_0 p L
  have em := s.mem
  subst em
  by_cases hw : m' ≤ w
  · have e := hv_same (p := p) (p' := p') (L := L) fun v hv => s.oth v (by have := ((mL v).mp hv).2; omega)
    rw [e, if_pos hw]
    by_cases ew : m' = w
    · subst ew
      rcases s.go with ⟨h1, h2, h3⟩ | ⟨h1, h2, h3⟩
      · rw [if_pos (show m ≤ m' by omega)]
        simp only [h1, h2, if_true, Bool.false_eq_true, if_false]
        omega
      · rw [if_neg (show ¬ m ≤ m' by omega)]
        simp only [h1, h2, if_true, Bool.false_eq_true, if_false]
        omega
    · rw [if_neg ew, s.oth w (Ne.symm ew)]
      split <;> omega
  · have uL : m' ∈ L := (mL m').mpr ⟨hu, by omega⟩
    rw [if_neg hw, if_neg (show ¬ m' = w by omega), s.oth w (by omega)]
    rcases s.go with ⟨h1, h2, h3⟩ | ⟨h1, h2, h3⟩
    · have e := hv_set hL uL s.oth h1 h2
      rw [e]
      split <;> omega
    · have e := hv_set hL uL (fun v hv => (s.oth v hv).symm) h2 h1
      have d := hx_dbl hL uL h3
      rw [e, if_neg (show ¬ m ≤ w by omega)]
      omega
/-- the same of depths: all turned about -/
def psiN (F : List Int) (p : Int → Bool) (m w : Int) : Int := psi (F.map fun v => -v).reverse (fun v => !p (-v)) (-m) (-w)
theorem DS.neg {p p' : Int → Bool} {m m' u : Int} (s : DS p m p' m' u) : DS (fun v => !p (-v)) (-m) (fun v => !p' (-v)) (-m') (-u) := by
  refine ⟨by rw [s.mem], fun v hv => ?_, ?_⟩
  · rw [s.oth (-v) (by omega)]
  · simp only [Int.neg_neg]
    rcases s.go with ⟨h1, h2, h3⟩ | ⟨h1, h2, h3⟩
    · exact .inr ⟨by simp [h1], by simp [h2], by omega⟩
    · exact .inl ⟨by simp [h1], by simp [h2], by omega⟩
theorem negF {F : List Int} (hF : F.Pairwise (· < ·)) : (F.map fun v => -v).reverse.Pairwise (· < ·) := by
  rw [List.pairwise_reverse, List.pairwise_map]
  exact hF.imp fun h => by omega
theorem negL {F : List Int} {w : Int} : ((F.map fun v => -v).reverse.filter fun v => decide (-w < v)).length = (F.filter fun v => decide (v < w)).length := by
  rw [List.filter_reverse, List.length_reverse, List.filter_map, List.length_map]
  congr 1
  refine List.filter_congr fun v _ => ?_
  simp only [Function.comp]
  exact decide_eq_decide.mpr (by omega)
theorem psiN_0 (F : List Int) (p : Int → Bool) (m w : Int) : 0 ≤ psiN F p m w := psi_0 _ _ _ _
theorem psiN_hi (F : List Int) (p : Int → Bool) (m w : Int) : psiN F p m w ≤ 2 * 2 ^ (F.filter fun v => decide (v < w)).length + 1 := by
  have := psi_hi (F.map fun v => -v).reverse (fun v => !p (-v)) (-m) (-w)
  rw [negL] at this
  exact this
theorem psiN_step {F : List Int} (hF : F.Pairwise (· < ·)) {p p' : Int → Bool} {m m' u : Int} (hu : u ∈ F) (s : DS p m p' m' u) (w : Int) : psiN F p m w + (if u = w then 1 else 0) ≤ psiN F p' m' w := by
  have := psi_step (negF hF) (u := -u) (by simpa using hu) s.neg (-w)
  have e : (if -u = -w then (1 : Int) else 0) = if u = w then 1 else 0 := by
    by_cases h : u = w
    · rw [if_pos h, if_pos (by omega)]
    · rw [if_neg h, if_neg (by omega)]
  rw [e] at this
  exact this
def pot1 (F : List Int) (p : Int → Bool) (m w : Int) : Int := if (F.filter fun v => decide (w < v)).length ≤ (F.filter fun v => decide (v < w)).length then psi F p m w else psiN F p m w
theorem pot1_0 (F : List Int) (p : Int → Bool) (m w : Int) : 0 ≤ pot1 F p m w := by
  unfold pot1
  split
  · exact psi_0 _ _ _ _
  · exact psiN_0 _ _ _ _
theorem two_part {F : List Int} (hF : F.Pairwise (· < ·)) {w : Int} (hw : w ∈ F) : (F.filter fun v => decide (w < v)).length + (F.filter fun v => decide (v < w)).length + 1 ≤ F.length := by
  induction F with
  | nil => simp at hw
  | cons a F ih =>
    obtain ⟨h1, h2⟩ := List.pairwise_cons.mp hF
    rcases List.mem_cons.mp hw with rfl | hw
    · have e1 : (F.filter fun v => decide (w < v)) = F := List.filter_eq_self.mpr fun v hv => by simpa using h1 v hv
      have e2 : (F.filter fun v => decide (v < w)) = [] := List.filter_eq_nil_iff.mpr fun v hv => by have := h1 v hv; simp; omega
      simp [List.filter_cons, e1, e2]
    · have := ih h2 hw
      have h3 := h1 w hw
      have n : ¬ w < a := by omega
      simp only [List.filter_cons, n, h3, decide_true, decide_false, if_true, Bool.false_eq_true, if_false, List.length_cons]
      omega
theorem pot1_hi {F : List Int} (hF : F.Pairwise (· < ·)) (p : Int → Bool) (m : Int) {w : Int} (hw : w ∈ F) : pot1 F p m w ≤ 2 * 2 ^ ((F.length - 1) / 2) + 1 := by
  have tp := two_part hF hw
  unfold pot1
  split
  · have h1 := psi_hi F p m w
    have h2 : (2 : Int) ^ (F.filter fun v => decide (w < v)).length ≤ 2 ^ ((F.length - 1) / 2) := by
      have := Nat.pow_le_pow_right (n := 2) (by decide) (show (F.filter fun v => decide (w < v)).length ≤ (F.length - 1) / 2 by omega)
      exact_mod_cast this
    omega
  · have h1 := psiN_hi F p m w
    have h2 : (2 : Int) ^ (F.filter fun v => decide (v < w)).length ≤ 2 ^ ((F.length - 1) / 2) := by
      have := Nat.pow_le_pow_right (n := 2) (by decide) (show (F.filter fun v => decide (v < w)).length ≤ (F.length - 1) / 2 by omega)
      exact_mod_cast this
    omega
theorem pot1_step {F : List Int} (hF : F.Pairwise (· < ·)) {p p' : Int → Bool} {m m' u : Int} (hu : u ∈ F) (s : DS p m p' m' u) (w : Int) : pot1 F p m w + (if u = w then 1 else 0) ≤ pot1 F p' m' w := by
  unfold pot1
  split
  · exact psi_step hF hu s w
  · exact psiN_step hF hu s w
theorem sum_step {f g : Int → Int} : ∀ {F : List Int}, (∀ w ∈ F, f w ≤ g w) → (F.map f).sum ≤ (F.map g).sum
  | [], _ => by simp
  | w :: F, h => by
    have h1 := h w List.mem_cons_self
    have h2 := sum_step (F := F) fun v hv => h v (List.mem_cons_of_mem _ hv)
    simp only [List.map_cons, List.sum_cons]
    omega
theorem sum_step1 {f g : Int → Int} {u : Int} : ∀ {F : List Int}, u ∈ F → (∀ w ∈ F, f w + (if u = w then 1 else 0) ≤ g w) → (F.map f).sum + 1 ≤ (F.map g).sum
  | [], hu, _ => nomatch hu
  | w :: F, hu, h => by
    have h1 := h w List.mem_cons_self
    have h2 := fun v hv => h v (List.mem_cons_of_mem _ hv)
    simp only [List.map_cons, List.sum_cons]
    by_cases e : u = w
    · rw [if_pos e] at h1
      have := sum_step (F := F) (f := f) (g := g) fun v hv => by have := h2 v hv; split at this <;> omega
      omega
    · have := sum_step1 ((List.mem_cons.mp hu).resolve_left e) h2
      rw [if_neg e] at h1
      omega
theorem sumN_step {f g : Nat → Int} : ∀ {F : List Nat}, (∀ w ∈ F, f w ≤ g w) → (F.map f).sum ≤ (F.map g).sum
  | [], _ => by simp
  | w :: F, h => by
    have h1 := h w List.mem_cons_self
    have h2 := sumN_step (F := F) fun v hv => h v (List.mem_cons_of_mem _ hv)
    simp only [List.map_cons, List.sum_cons]
    omega
theorem sumN_step1 {f g : Nat → Int} {u : Nat} : ∀ {F : List Nat}, u ∈ F → (∀ w ∈ F, f w + (if u = w then 1 else 0) ≤ g w) → (F.map f).sum + 1 ≤ (F.map g).sum
  | [], hu, _ => nomatch hu
  | w :: F, hu, h => by
    have h1 := h w List.mem_cons_self
    have h2 := fun v hv => h v (List.mem_cons_of_mem _ hv)
    simp only [List.map_cons, List.sum_cons]
    by_cases e : u = w
    · rw [if_pos e] at h1
      have := sumN_step (F := F) (f := f) (g := g) fun v hv => by have := h2 v hv; split at this <;> omega
      omega
    · have := sumN_step1 ((List.mem_cons.mp hu).resolve_left e) h2
      rw [if_neg e] at h1
      omega
theorem sum_hi {f : Int → Int} {c : Int} : ∀ {F : List Int}, (∀ w ∈ F, f w ≤ c) → (F.map f).sum ≤ F.length * c
  | [], _ => by simp
  | w :: F, h => by
    have h1 := h w List.mem_cons_self
    have h2 := sum_hi (F := F) fun v hv => h v (List.mem_cons_of_mem _ hv)
    simp only [List.map_cons, List.sum_cons, List.length_cons, Int.natCast_add, Int.add_mul]
    omega
theorem sumN_hi {f : Nat → Int} {c : Int} : ∀ {F : List Nat}, (∀ w ∈ F, f w ≤ c) → (F.map f).sum ≤ F.length * c
  | [], _ => by simp
  | w :: F, h => by
    have h1 := h w List.mem_cons_self
    have h2 := sumN_hi (F := F) fun v hv => h v (List.mem_cons_of_mem _ hv)
    simp only [List.map_cons, List.sum_cons, List.length_cons, Int.natCast_add, Int.add_mul]
    omega
theorem sumN_0 {f : Nat → Int} : ∀ {F : List Nat}, (∀ w ∈ F, 0 ≤ f w) → 0 ≤ (F.map f).sum
  | [], _ => by simp
  | w :: F, h => by
    have h1 := h w List.mem_cons_self
    have h2 := sumN_0 (F := F) fun v hv => h v (List.mem_cons_of_mem _ hv)
    simp only [List.map_cons, List.sum_cons]
    omega
theorem sumI_0 {f : Int → Int} : ∀ {F : List Int}, (∀ w ∈ F, 0 ≤ f w) → 0 ≤ (F.map f).sum
  | [], _ => by simp
  | w :: F, h => by
    have h1 := h w List.mem_cons_self
    have h2 := sumI_0 (F := F) fun v hv => h v (List.mem_cons_of_mem _ hv)
    simp only [List.map_cons, List.sum_cons]
    omega
/-- beyond the k-th door (from 0) -/
def bey (R : List (List Int)) (k : Nat) (v : Int) : Bool := decide (v ∈ (R.drop (k + 1)).flatten)
theorem bey_iff {R : List (List Int)} {k : Nat} {v : Int} : bey R k v = true ↔ ∃ i, k < i ∧ v ∈ R.getD i [] := by
  rw [bey, decide_eq_true_eq, List.mem_flatten]
  constructor
  · rintro ⟨r, hr, hv⟩
    obtain ⟨j, hj⟩ := List.mem_iff_getElem?.mp hr
    rw [List.getElem?_drop] at hj
    exact ⟨k + 1 + j, by omega, by rw [List.getD_eq_getElem?_getD, hj]; exact hv⟩
  · rintro ⟨i, hi, hv⟩
    rw [List.getD_eq_getElem?_getD] at hv
    cases e : R[i]? with
    | none => rw [e] at hv; simp at hv
    | some r =>
      rw [e] at hv
      exact ⟨r, List.mem_iff_getElem?.mpr ⟨i - (k + 1), by rw [List.getElem?_drop, show k + 1 + (i - (k + 1)) = i by omega]; exact e⟩, hv⟩
theorem mem_behF {R : List (List Int)} {w v : Int} {k i : Nat} (hk : k + 1 < R.length) (c : w ∈ R.getD k []) : v ∈ (behR R w k).getD i [] ↔ (i = k ∧ v ∈ R.getD k [] ∧ v ≠ w) ∨ (i = k + 1 ∧ (v ∈ R.getD (k + 1) [] ∨ v = w)) ∨ (i ≠ k ∧ i ≠ k + 1 ∧ v ∈ R.getD i []) := by
  simp only [behR, if_pos c]
  rw [set_getD (by rw [List.length_set]; omega), set_getD (by omega)]
  by_cases e1 : i = k + 1
  · subst e1
    rw [if_pos rfl, isrt_mem]
    simp
  · rw [if_neg e1]
    by_cases e2 : i = k
    · subst e2
      rw [if_pos rfl]
      simp
    · rw [if_neg e2]
      simp [e1, e2]
theorem mem_behB {R : List (List Int)} {w v : Int} {k i : Nat} (hk : k + 1 < R.length) (c : ¬ w ∈ R.getD k []) : v ∈ (behR R w k).getD i [] ↔ (i = k + 1 ∧ v ∈ R.getD (k + 1) [] ∧ v ≠ w) ∨ (i = k ∧ (v ∈ R.getD k [] ∨ v = w)) ∨ (i ≠ k ∧ i ≠ k + 1 ∧ v ∈ R.getD i []) := by
  simp only [behR, if_neg c]
  rw [set_getD (by rw [List.length_set]; omega), set_getD (by omega)]
  by_cases e1 : i = k
  · subst e1
    rw [if_pos rfl, isrt_mem]
    simp
  · rw [if_neg e1]
    by_cases e2 : i = k + 1
    · subst e2
      rw [if_pos rfl]
      simp
    · rw [if_neg e2]
      simp [e1, e2]
theorem bool_ext {a b : Bool} (h : a = true ↔ b = true) : a = b := by cases a <;> cases b <;> simp_all
theorem bey_step {folk : List Int} {d : Nat} {R : List (List Int)} {D : List Int} (f : Fk folk) (h : Hou folk d R D) {w : Int} {k : Nat} (hk : k < d) (l : Let R D w k) : DS (bey R k) (D.getD k 0) (bey (behR R w k) k) w w := by
  have hlr := h.lr
  have hk1 : k + 1 < R.length := by omega
  rcases l with ⟨c, l⟩ | ⟨c, c2, l⟩
  · refine ⟨rfl, fun v hv => bool_ext ?_, .inl ⟨?_, ?_, l⟩⟩
    · rw [bey_iff, bey_iff]
      refine exists_congr fun i => and_congr_right fun hi => ?_
      rw [mem_behF hk1 c]
      constructor
      · rintro (⟨e, _⟩ | ⟨e, h1 | h1⟩ | ⟨_, _, h1⟩)
        · omega
        · rw [e]; exact h1
        · exact absurd h1 hv
        · exact h1
      · intro h1
        by_cases e : i = k + 1
        · exact .inr (.inl ⟨e, .inl (by rw [← e]; exact h1)⟩)
        · exact .inr (.inr ⟨by omega, e, h1⟩)
    · rw [← Bool.not_eq_true, bey_iff]
      rintro ⟨i, hi, hv⟩
      exact h.one f hi c hv
    · rw [bey_iff]
      exact ⟨k + 1, by omega, beh_forth hk1 c⟩
  · refine ⟨rfl, fun v hv => bool_ext ?_, .inr ⟨?_, ?_, l⟩⟩
    · rw [bey_iff, bey_iff]
      refine exists_congr fun i => and_congr_right fun hi => ?_
      rw [mem_behB hk1 c]
      constructor
      · rintro (⟨e, h1, _⟩ | ⟨e, _⟩ | ⟨_, _, h1⟩)
        · rw [e]; exact h1
        · omega
        · exact h1
      · intro h1
        by_cases e : i = k + 1
        · exact .inl ⟨e, by rw [← e]; exact h1, hv⟩
        · exact .inr (.inr ⟨by omega, e, h1⟩)
    · rw [bey_iff]
      exact ⟨k + 1, by omega, c2⟩
    · rw [← Bool.not_eq_true, bey_iff]
      rintro ⟨i, hi, hv⟩
      rw [mem_behB hk1 c] at hv
      rcases hv with ⟨_, _, e⟩ | ⟨e, _⟩ | ⟨_, e, hv⟩
      · exact e rfl
      · omega
      · exact h.one f (show k + 1 < i by omega) c2 hv
theorem bey_other {folk : List Int} {d : Nat} {R : List (List Int)} {D : List Int} (h : Hou folk d R D) {w : Int} {k j : Nat} (hk : k < d) (l : Let R D w k) (hj : j ≠ k) : bey (behR R w k) j = bey R j := by
  have hlr := h.lr
  have hk1 : k + 1 < R.length := by omega
  funext v
  apply bool_ext
  rw [bey_iff, bey_iff]
  by_cases e : v = w
  · subst e
    rcases Nat.lt_or_gt_of_ne hj with hj | hj
    · constructor
      · intro _
        rcases l with ⟨c, l⟩ | ⟨c, c2, l⟩
        · exact ⟨k, hj, c⟩
        · exact ⟨k + 1, by omega, c2⟩
      · intro _
        rcases l with ⟨c, l⟩ | ⟨c, c2, l⟩
        · exact ⟨k + 1, by omega, beh_forth hk1 c⟩
        · exact ⟨k, hj, beh_back hk1 c⟩
    · refine exists_congr fun i => and_congr_right fun hi => ?_
      rw [beh_other hk1 (by omega) (by omega)]
  · refine exists_congr fun i => and_congr_right fun hi => ?_
    rcases l with ⟨c, l⟩ | ⟨c, c2, l⟩
    · rw [mem_behF hk1 c]
      by_cases e1 : i = k
      · subst e1; simp [e]
      · by_cases e2 : i = k + 1
        · subst e2; simp [e]
        · simp [e1, e2]
    · rw [mem_behB hk1 c]
      by_cases e1 : i = k
      · subst e1; simp [e]
      · by_cases e2 : i = k + 1
        · subst e2; simp [e]
        · simp [e1, e2]
/-- all goings there have been, at the most -/
def pot (F : List Int) (R : List (List Int)) (D : List Int) (d : Nat) : Int := ((List.range d).map fun k => (F.map fun w => pot1 F (bey R k) (D.getD k 0) w).sum).sum
theorem pot_0 (F : List Int) (R : List (List Int)) (D : List Int) (d : Nat) : 0 ≤ pot F R D d := sumN_0 fun k _ => sumI_0 fun w _ => pot1_0 _ _ _ _
theorem pot_hi {F : List Int} (hF : F.Pairwise (· < ·)) (R : List (List Int)) (D : List Int) (d : Nat) : pot F R D d ≤ d * (F.length * (2 * 2 ^ ((F.length - 1) / 2) + 1)) := by
  have := sumN_hi (F := List.range d) (f := fun k => (F.map fun w => pot1 F (bey R k) (D.getD k 0) w).sum) (c := F.length * (2 * 2 ^ ((F.length - 1) / 2) + 1)) fun k _ => sum_hi fun w hw => pot1_hi hF _ _ hw
  rw [List.length_range] at this
  exact this
theorem pot_step {folk : List Int} {d : Nat} {R : List (List Int)} {D : List Int} (f : Fk folk) (h : Hou folk d R D) {w : Int} {k : Nat} (hk : k < d) (l : Let R D w k) : pot folk R D d + 1 ≤ pot folk (behR R w k) (D.set k w) d := by
  have hw : w ∈ folk := by
    have hlr := h.lr
    have e0 : R[k]? = some (R.getD k []) := by rw [List.getD_eq_getElem?_getD, List.getElem?_eq_getElem (by omega)]; rfl
    have e1 : R[k + 1]? = some (R.getD (k + 1) []) := by rw [List.getD_eq_getElem?_getD, List.getElem?_eq_getElem (by omega)]; rfl
    rcases l with ⟨c, _⟩ | ⟨_, c, _⟩
    · exact h.mem (List.mem_of_getElem? e0) c
    · exact h.mem (List.mem_of_getElem? e1) c
  have hld := h.ld
  refine sumN_step1 (u := k) (List.mem_range.mpr hk) fun j hj => ?_
  by_cases e : k = j
  · subst e
    rw [if_pos rfl]
    refine sum_step1 hw fun v hv => ?_
    have := pot1_step f.srt hw (bey_step f h hk l) v
    rw [set_getD (by omega), if_pos rfl]
    exact this
  · rw [if_neg e, bey_other h hk l (Ne.symm e), set_getD (by omega), if_neg (Ne.symm e)]
    exact Int.le_of_eq (Int.add_zero _)
@[simp] theorem wO_notB {a b : Bool} {Q : Dt → Md → Prop} : wO (fNot [.b a, .b b]) Q = Q (.b (!decide (a = b))) .c := id rfl
@[simp] theorem wO_isB {a b : Bool} {Q : Dt → Md → Prop} : wO (fIs [.b a, .b b]) Q = Q (.b (decide (a = b))) .c := id rfl
theorem lmax_in {ns : List Int} (h : ns ≠ []) : lmax (ns.headD 0) ns.tail ∈ ns ∧ ∀ v ∈ ns, v ≤ lmax (ns.headD 0) ns.tail := by
  cases ns with
  | nil => exact absurd rfl h
  | cons a ns =>
    obtain ⟨h1, h2, h3⟩ := lmax_spec ns a
    simp only [List.headD_cons, List.tail_cons]
    refine ⟨?_, fun v hv => ?_⟩
    · rcases h1 with h1 | h1
      · rw [h1]; exact List.mem_cons_self
      · exact List.mem_cons_of_mem _ h1
    · rcases List.mem_cons.mp hv with rfl | hv
      · exact h2
      · exact h3 v hv
@[simp] theorem okE_0 {r : Ev} {ys : List Dt} : okE 0 (some (.l ys, .c) :: r) = (flatL ys && r.all flS) := id rfl
@[simp] theorem okE_s {r : Ev} {i : Nat} {o : Option Vl} : okE (i + 1) (o :: r) = (flS o && okE i r) := id rfl
@[simp] theorem ownE_0 {r : Ev} {ys : List Dt} : ownE 0 (some (.l ys, .c) :: r) = some (.l ys, .t) :: r := id rfl
@[simp] theorem ownE_s {r : Ev} {i : Nat} {o : Option Vl} : ownE (i + 1) (o :: r) = o :: ownE i r := id rfl
@[simp] theorem flS_n : flS none = true := id rfl
@[simp] theorem flS_s {xm : Vl} : flS (some xm) = zfl xm := id rfl
@[simp] theorem allS_n : ([] : Ev).all flS = true := id rfl
@[simp] theorem allS_s {o : Option Vl} {r : Ev} : (o :: r).all flS = (flS o && r.all flS) := id rfl
@[simp] theorem wE_MtV {p : List Dt → Option Vl} {i : Nat} {as : List Am} {r : Ev} {Q : Vl → Ev → Prop} : wE (mMt p (.v i) as) r Q = (isL i r = true ∧ wE (mP p (.v i :: as)) r Q) := by
  unfold wE
  simp only [mMt, evA]
  cases h : r[i]? with
  | none => simp [isL, h]
  | some o =>
    cases o with
    | none => simp [isL, h]
    | some xm =>
      obtain ⟨x, m⟩ := xm
      simp only [look, h, Option.map_some]
      cases x <;> simp [isL, h, isLd]
@[simp] theorem wE_MtE {p : List Dt → Option Vl} {f : Ev → Ou Vl} {as : List Am} {r : Ev} {Q : Vl → Ev → Prop} : wE (mMt p (.e f) as) r Q = (wE f r (fun x _ => isLd x.1 = true) ∧ wE (mP p (.e f :: as)) r Q) := by
  unfold wE
  simp only [mMt, evA]
  cases h : f r with
  | ok xm r1 =>
    obtain ⟨x, m⟩ := xm
    simp only [look, Option.map_some]
    by_cases c : isLd x = true
    · simp [c]
    · simp [c]
  | ex c fs r1 => simp
  | no => simp
@[simp] theorem isLd_l {xs : List Dt} : isLd (.l xs) = true := id rfl
end Y
namespace Y
open PySem L2 PyProof.Rows
/-- goings, each let, from one house to another -/
inductive Run (d : Nat) (R0 : List (List Int)) (D0 : List Int) : List (Int × Int) → List (List Int) → List Int → Prop
  | nil : Run d R0 D0 [] R0 D0
  | snoc {ps : List (Int × Int)} {R : List (List Int)} {D : List Int} {w : Int} {k : Nat} : Run d R0 D0 ps R D → k < d → Let R D w k → Run d R0 D0 (ps ++ [(w, (k : Int) + 1)]) (behR R w k) (D.set k w)
section
variable {folk : List Int} {d : Nat} {R0 R : List (List Int)} {D0 D : List Int} {ps : List (Int × Int)}
theorem Run.hou (f : Fk folk) (h0 : Hou folk d R0 D0) (h : Run d R0 D0 ps R D) : Hou folk d R D := by
  induction h with
  | nil => exact h0
  | snoc _ hk l ih => exact l.hou f ih hk
theorem Let.mem (h : Hou folk d R D) {w : Int} {k : Nat} (hk : k < d) (l : Let R D w k) : w ∈ folk := by
  have hlr := h.lr
  have e0 : R[k]? = some (R.getD k []) := by rw [List.getD_eq_getElem?_getD, List.getElem?_eq_getElem (by omega)]; rfl
  have e1 : R[k + 1]? = some (R.getD (k + 1) []) := by rw [List.getD_eq_getElem?_getD, List.getElem?_eq_getElem (by omega)]; rfl
  rcases l with ⟨c, _⟩ | ⟨_, c, _⟩
  · exact h.mem (List.mem_of_getElem? e0) c
  · exact h.mem (List.mem_of_getElem? e1) c
theorem Run.pot (f : Fk folk) (h0 : Hou folk d R0 D0) (h : Run d R0 D0 ps R D) : Y.pot folk R0 D0 d + ps.length ≤ Y.pot folk R D d := by
  induction h with
  | nil => simp
  | snoc h hk l ih =>
    have := pot_step f (h.hou f h0) hk l
    rw [List.length_append, List.length_singleton]
    omega
theorem Run.len (f : Fk folk) (h0 : Hou folk d R0 D0) (h : Run d R0 D0 ps R D) : (ps.length : Int) ≤ d * (folk.length * (2 * 2 ^ ((folk.length - 1) / 2) + 1)) := by
  have h1 := h.pot f h0
  have h2 := pot_hi f.srt R D d
  have h3 := pot_0 folk R0 D0 d
  omega
theorem pair_ne {w v : Int} {k j : Nat} : ((w, (k : Int) + 1) = (v, (j : Int) + 1)) ↔ (w = v ∧ k = j) := by
  constructor
  · intro h
    injection h with h1 h2
    exact ⟨h1, by omega⟩
  · rintro ⟨rfl, rfl⟩; rfl
theorem count_snoc {w v : Int} {k j : Nat} : (ps ++ [(w, (k : Int) + 1)]).count (v, (j : Int) + 1) = ps.count (v, (j : Int) + 1) + if w = v ∧ k = j then 1 else 0 := by
  rw [List.count_append, List.count_singleton]
  congr 1
  by_cases c : w = v ∧ k = j
  · rw [if_pos c, if_pos (by rw [beq_iff_eq]; exact pair_ne.mpr c)]
  · rw [if_neg c, if_neg (by rw [beq_iff_eq]; exact fun e => c (pair_ne.mp e))]
/-- how often each goes by each door -/
theorem Run.cnt (f : Fk folk) (h0 : Hou folk d R0 D0) (h : Run d R0 D0 ps R D) (v : Int) {j : Nat} (hj : j < d) :
    psi folk (bey R0 j) (D0.getD j 0) v + (ps.count (v, (j : Int) + 1) : Nat) ≤ psi folk (bey R j) (D.getD j 0) v ∧ psiN folk (bey R0 j) (D0.getD j 0) v + (ps.count (v, (j : Int) + 1) : Nat) ≤ psiN folk (bey R j) (D.getD j 0) v := by
  induction h with
  | nil => simp
  | @snoc ps R D w k h hk l ih =>
    have hh := h.hou f h0
    have hld := hh.ld
    have hw := l.mem hh hk
    rw [count_snoc, set_getD (by omega)]
    by_cases e : j = k
    · subst e
      have s := bey_step f hh hk l
      have s1 := psi_step f.srt hw s v
      have s2 := psiN_step f.srt hw s v
      rw [if_pos rfl]
      by_cases e2 : w = v
      · rw [if_pos e2] at s1 s2
        rw [if_pos ⟨e2, rfl⟩]
        omega
      · rw [if_neg e2] at s1 s2
        rw [if_neg fun c => e2 c.1]
        omega
    · rw [if_neg e, if_neg (fun c => e c.2.symm), bey_other hh hk l e]
      omega
/-- a new house -/
theorem hv_none {L : List Int} : hv (fun _ => false) L = 0 := by
  induction L with
  | nil => rfl
  | cons a L ih => simp [hv, ih]
theorem hv_all {L : List Int} : hv (fun _ => true) L = 2 ^ L.length - 1 := by
  induction L with
  | nil => rfl
  | cons a L ih =>
    simp only [hv, ih, if_true, List.length_cons, Int.pow_succ]
    omega
theorem hx_all {m : Int} : ∀ {L : List Int}, (∀ v ∈ L, v < m) → hx m L = 2 ^ L.length
  | [], _ => rfl
  | v :: L, h => by
    have h1 := h v List.mem_cons_self
    simp only [hx, if_neg (show ¬ m ≤ v by omega), hx_all fun u hu => h u (List.mem_cons_of_mem _ hu), List.length_cons, Int.pow_succ]
    omega
theorem new_bey {d j : Nat} {v : Int} : bey (folk :: List.replicate d []) j v = false := by
  rw [← Bool.not_eq_true, bey_iff]
  rintro ⟨i, hi, hv⟩
  obtain ⟨i, rfl⟩ : ∃ k, i = k + 1 := ⟨i - 1, by omega⟩
  rw [List.getD_cons_succ, List.getD_eq_getElem?_getD, List.getElem?_replicate] at hv
  split at hv <;> simp at hv
theorem new_psi (f : Fk folk) {p : Int → Bool} (hp : ∀ v, p v = false) {w : Int} (hw : 1 ≤ w) : psi folk p 0 w = 2 ∧ psiN folk p 0 w = 1 := by
  have ep : p = fun _ => false := funext hp
  subst ep
  constructor
  · unfold psi gp
    rw [if_pos (by omega), hv_none]
    rfl
  · unfold psiN psi gp
    rw [if_neg (show ¬ -0 ≤ -w by omega)]
    have e : ∀ v ∈ ((folk.map fun v => -v).reverse.filter fun v => decide (-w < v)), v < -0 := fun v hv => by
      have := (List.mem_filter.mp hv).1
      rw [List.mem_reverse, List.mem_map] at this
      obtain ⟨u, hu, rfl⟩ := this
      have := f.bd u hu
      omega
    rw [hx_all e]
    have e2 : (fun v : Int => !(fun _ => false) (-v)) = fun _ => true := rfl
    rw [e2, hv_all]
    have : max (-1 : Int) (2 ^ ((folk.map fun v => -v).reverse.filter fun v => decide (-w < v)).length - 1 - 2 ^ ((folk.map fun v => -v).reverse.filter fun v => decide (-w < v)).length) = -1 := by omega
    rw [this]
    rfl
theorem Run.new (f : Fk folk) (h : Run d (folk :: List.replicate d []) (List.replicate d 0) ps R D) (h0 : Hou folk d (folk :: List.replicate d []) (List.replicate d 0)) {v : Int} (hv : v ∈ folk) {j : Nat} (hj : j < d) :
    ((ps.count (v, (j : Int) + 1) : Nat) : Int) ≤ 2 * 2 ^ (folk.filter fun u => decide (v < u)).length - 1 ∧ ((ps.count (v, (j : Int) + 1) : Nat) : Int) ≤ 2 * 2 ^ (folk.filter fun u => decide (u < v)).length := by
  have hc := h.cnt f h0 v hj
  have ez : (List.replicate d (0 : Int)).getD j 0 = 0 := by rw [List.getD_eq_getElem?_getD, List.getElem?_replicate]; split <;> rfl
  have hb := f.bd v hv
  obtain ⟨n1, n2⟩ := new_psi f (p := bey (folk :: List.replicate d []) j) (fun u => new_bey) (w := v) (by omega)
  rw [ez, n1, n2] at hc
  have h1 := psi_hi folk (bey R j) (D.getD j 0) v
  have h2 := psiN_hi folk (bey R j) (D.getD j 0) v
  omega
/-- all together -/
theorem Run.sum (f : Fk folk) (h0 : Hou folk d R0 D0) (h : Run d R0 D0 ps R D) : (ps.length : Int) ≤ ((List.range d).map fun k : Nat => (folk.map fun w => ((ps.count (w, (k : Int) + 1) : Nat) : Int)).sum).sum := by
  induction h with
  | nil => exact sumN_0 fun k _ => sumI_0 fun w _ => by omega
  | @snoc ps R D w k h hk l ih =>
    have hh := h.hou f h0
    have hw := l.mem hh hk
    rw [List.length_append, List.length_singleton]
    have := sumN_step1 (f := fun k : Nat => (folk.map fun w => ((ps.count (w, (k : Int) + 1) : Nat) : Int)).sum) (g := fun j : Nat => (folk.map fun v => (((ps ++ [(w, (k : Int) + 1)]).count (v, (j : Int) + 1) : Nat) : Int)).sum) (u := k) (F := List.range d) (List.mem_range.mpr hk) fun j hj => by
      by_cases e : k = j
      · subst e
        rw [if_pos rfl]
        refine sum_step1 hw fun v hv => ?_
        rw [count_snoc]
        by_cases e : w = v
        · simp [e]
        · simp [e]
      · rw [if_neg e, Int.add_zero]
        exact sum_step fun v hv => by rw [count_snoc]; simp [e]
    omega
end
@[simp] theorem wZ_pr {Q : Ev → Prop} {ag : List Ag} {r : Ev} {p : Int × Int} : wZ (pr p) ag r Q = Q r := id rfl
@[simp] theorem wZ_hs {Q : Ev → Prop} {ag : List Ag} {r : Ev} {R : List (List Int)} {D : List Int} : wZ (hs R D) ag r Q = Q r := by
  unfold wZ
  rw [flat_hs, if_pos rfl]
section
variable {folk : List Int} {d : Nat} {R0 R R' : List (List Int)} {D0 D D' : List Int} {ps : List (Int × Int)}
theorem Run.at_ (h : Run d R0 D0 ps R D) : ∀ {k : Nat} {q : Int × Int}, ps[k]? = some q → ∃ (R1 : List (List Int)) (D1 : List Int) (w : Int) (j : Nat), Run d R0 D0 (ps.take k) R1 D1 ∧ j < d ∧ Let R1 D1 w j ∧ q = (w, (j : Int) + 1) := by
  induction h with
  | nil => intro k q h; simp at h
  | @snoc ps R1 D1 w j h hj l ih =>
    intro k q hq
    by_cases c : k < ps.length
    · rw [List.getElem?_append_left c] at hq
      obtain ⟨R2, D2, w2, j2, g1, g2, g3, g4⟩ := ih hq
      exact ⟨R2, D2, w2, j2, by rw [List.take_append_of_le_length (by omega)]; exact g1, g2, g3, g4⟩
    · have e : k = ps.length := by
        have := (List.getElem?_eq_some_iff.mp hq).1
        rw [List.length_append, List.length_singleton] at this
        omega
      subst e
      rw [List.getElem?_append_right (Nat.le_refl _), Nat.sub_self] at hq
      cases hq
      exact ⟨R1, D1, w, j, by rw [List.take_left']; exact h; rfl, hj, l, rfl⟩
end
end Y
namespace Y
open PySem L2 PyProof.Rows
section
variable {c f m : Str} {r r1 r2 : Ev} {x y : Dt} {xs ys : List Dt} {ns : List Str} {fs : List Dt} {w : List IR}
def isO1 (c m : Str) : List Dt → Bool
  | [x] => isO c m x
  | _ => false
@[simp] theorem wE_Me {fn : Fn} {A : Am} {as : List Am} {Q : Vl → Ev → Prop} : wE (mMe c m fn A as) r Q = (wA [A] r (fun ys r1 => wL (look r1 ys) fun xs => isO1 c m xs = true) ∧ wE (mC fn (A :: as)) r Q) := by
  unfold wE wA wL
  simp only [mMe]
  cases h1 : evA [A] r with
  | no => simp
  | ex c fs r1 => simp
  | ok ys r1 =>
    simp only
    cases h2 : look r1 ys with
    | none => simp
    | some xs =>
      match xs with
      | [] => simp [isO1]
      | [x] =>
        simp only [isO1]
        by_cases h : isO c m x = true
        · simp [h]
        · simp [h]
      | x :: y :: z => simp [isO1]
def wTl (r1 : Ev) (k : Ev → Prop) : Prop := match r1 with
  | some (_, .c) :: r2 => k r2
  | _ => False
@[simp] theorem wTl_c {k : Ev → Prop} : wTl (some (x, .c) :: r2) k = k r2 := id rfl
def wR (c : Str) (w : List IR) (r : Ev) (ns : List Str) (fs : List Dt) (Q : List Str → List Dt → Prop) : Prop := match iRun c w r ns fs with
  | some (ns, fs) => Q ns fs
  | none => False
@[simp] theorem wFn_fnMk {pad : Nat} {vs : List Vl} {Q : Vl → Vl → Prop} : wFn (fnMk c pad w) vs Q = wR c w (vs.map some ++ List.replicate pad none) [] [] fun ns fs => Q (.o c ns fs, .c) (.n, .c) := by
  unfold wFn wR
  simp only [fnMk]
  cases iRun c w (vs.map some ++ List.replicate pad none) [] [] <;> rfl
@[simp] theorem wR_nil {Q : List Str → List Dt → Prop} : wR c [] r ns fs Q = Q ns fs := id rfl
@[simp] theorem wR_fld {g : Ev → Ou Vl} {Q : List Str → List Dt → Prop} : wR c (.fld f g :: w) r ns fs Q = wE g (some (.o c ns fs, .c) :: r) fun x r1 => wTl r1 fun r2 => nob x.1 = true ∧ nobE r2 = true ∧ ns.contains f = false ∧ ns.length < 900 ∧ wR c w r2 (ns ++ [f]) (fs ++ [x.1]) Q := by
  unfold wR wE wTl
  simp only [iRun]
  cases hg : g (some (.o c ns fs, .c) :: r) with
  | no => simp
  | ex c fs r1 => simp
  | ok xm r1 =>
    obtain ⟨x, mm⟩ := xm
    simp only
    match r1 with
    | [] => rfl
    | none :: r2 => rfl
    | some (y, .t) :: r2 => rfl
    | some (y, .a) :: r2 => rfl
    | some (y, .c) :: r2 =>
      simp only
      by_cases h : (nob x && nobE r2 && !ns.contains f && decide (ns.length < 900)) = true
      · rw [if_pos h]
        simp only [Bool.and_eq_true, Bool.not_eq_true', decide_eq_true_eq] at h
        simp only [h.1.1.1, h.1.1.2, h.1.2, h.2, true_and]
      · rw [if_neg h]
        refine propext ⟨fun z => z.elim, fun ⟨h1, h2, h3, h4, _⟩ => h ?_⟩
        simp only [h1, h2, h3, h4, decide_true, Bool.and_true, Bool.not_false]
@[simp] theorem wR_st {s : Ev → So} {Q : List Str → List Dt → Prop} : wR c (.st s :: w) r ns fs Q = wS s (some (.o c ns fs, .c) :: r) (fun r1 => wTl r1 fun r2 => nobE r2 = true ∧ wR c w r2 ns fs Q) (fun _ _ => False) (fun _ => False) (fun _ => False) := by
  unfold wR wS wTl
  simp only [iRun]
  cases hs : s (some (.o c ns fs, .c) :: r) with
  | nx r1 =>
    simp only
    match r1 with
    | [] => rfl
    | none :: r2 => rfl
    | some (y, .t) :: r2 => rfl
    | some (y, .a) :: r2 => rfl
    | some (y, .c) :: r2 =>
      simp only
      by_cases h : nobE r2 = true
      · simp [h]
      · simp [h]
  | rt x r1 => simp
  | bk r1 => simp
  | ct r1 => simp
  | ex c fs r1 => simp
  | no => simp
@[simp] theorem wS_forH {fs : List (Ev → Ou Vl)} {t : Vl → Ev → Option Ev} {body : Ev → So} {Qn : Ev → Prop} {Qr : Vl → Ev → Prop} {Qb Qc : Ev → Prop} : wS (sForH fs t body) r Qn Qr Qb Qc = wH fs r fun vs r1 => vs.length ≤ LIM ∧ wS (forH t body vs) r1 Qn Qr Qb Qc := by
  unfold wH
  cases h : evH fs r with
  | no => unfold wS; simp only [sForH, h]
  | ex c fs r1 => unfold wS; simp only [sForH, h]
  | ok vs r1 =>
    by_cases hl : vs.length ≤ LIM
    · have e : sForH fs t body r = forH t body vs r1 := by simp only [sForH, h]; exact if_pos hl
      unfold wS
      rw [e]
      simp only [hl, true_and]
    · have e : sForH fs t body r = .no := by simp only [sForH, h]; exact if_neg hl
      unfold wS
      rw [e]
      simp only [hl, false_and]
@[simp] theorem wO_divmod {a b : Int} {Q : Dt → Md → Prop} : wO (fDivmod [.i a, .i b]) Q = (0 < b ∧ b < 1073741824 ∧ Q (.t [.i (a / b), .i (a % b)]) .c) := by
  show wO (if (decide (0 < b) && decide (b < 1073741824)) = true then some (.t [.i (a / b), .i (a % b)], .c) else none) Q = _
  by_cases h : (decide (0 < b) && decide (b < 1073741824)) = true
  · rw [if_pos h]
    simp only [Bool.and_eq_true, decide_eq_true_eq] at h
    simp only [wO_some, h.1, h.2, true_and]
  · rw [if_neg h]
    refine propext ⟨fun z => z.elim, fun ⟨h1, h2, _⟩ => h ?_⟩
    simp only [h1, h2, decide_true, Bool.and_true]
@[simp] theorem wO_lrg {i j : Int} {Q : Dt → Md → Prop} : wO (fLrg [.i i, .i j, .i (-1)]) Q = (-(2 ^ 60) ≤ i ∧ i ≤ 2 ^ 60 ∧ -(2 ^ 60) ≤ j ∧ j ≤ 2 ^ 60 ∧ i - j ≤ LIM ∧ Q (.l (rngC i (-1) (i - j).toNat)) .t) := by
  show wO (if (-1 : Int) = -1 ∧ -(2 ^ 60) ≤ i ∧ i ≤ 2 ^ 60 ∧ -(2 ^ 60) ≤ j ∧ j ≤ 2 ^ 60 ∧ i - j ≤ LIM then some (.l (rngC i (-1) (i - j).toNat), .t) else none) Q = _
  by_cases h : (-1 : Int) = -1 ∧ -(2 ^ 60) ≤ i ∧ i ≤ 2 ^ 60 ∧ -(2 ^ 60) ≤ j ∧ j ≤ 2 ^ 60 ∧ i - j ≤ LIM
  · rw [if_pos h]
    exact propext ⟨fun q => ⟨h.2.1, h.2.2.1, h.2.2.2.1, h.2.2.2.2.1, h.2.2.2.2.2, q⟩, fun q => q.2.2.2.2.2⟩
  · rw [if_neg h]
    exact propext ⟨fun z => z.elim, fun q => h ⟨rfl, q.1, q.2.1, q.2.2.1, q.2.2.2.1, q.2.2.2.2.1⟩⟩
@[simp] theorem nobL_i (ns : List Int) : nobL (ns.map .i) = true := by
  induction ns with
  | nil => rfl
  | cons n ns ih =>
    show (nob (.i _) && nobL (ns.map .i)) = true
    rw [ih]
    rfl
@[simp] theorem nobL_rm (R : List (List Int)) : nobL (R.map rm) = true := by
  induction R with
  | nil => rfl
  | cons n ns ih =>
    show (nob (rm n) && nobL (ns.map rm)) = true
    rw [ih]
    show (nobL (n.map .i) && true) = true
    rw [nobL_i]
    rfl
@[simp] theorem nobL_lm (R : List (List Int)) : nobL (R.map lm) = true := by
  induction R with
  | nil => rfl
  | cons n ns ih =>
    show (nob (lm n) && nobL (ns.map lm)) = true
    rw [ih]
    show (nobL (n.map .i) && true) = true
    rw [nobL_i]
    rfl
@[simp] theorem nob_t : nob (.t xs) = nobL xs := id rfl
@[simp] theorem nob_l : nob (.l xs) = nobL xs := id rfl
@[simp] theorem nob_z : nob (.z xs) = nobL xs := id rfl
@[simp] theorem nob_i {a : Int} : nob (.i a) = true := id rfl
@[simp] theorem nob_b {a : Bool} : nob (.b a) = true := id rfl
@[simp] theorem nob_s {a : Str} : nob (.s a) = true := id rfl
@[simp] theorem nob_n : nob .n = true := id rfl
@[simp] theorem nobL_0 : nobL [] = true := id rfl
@[simp] theorem nobL_c : nobL (x :: xs) = (nob x && nobL xs) := id rfl
@[simp] theorem nobE_n : nobE (none :: r) = nobE r := id rfl
@[simp] theorem nobE_c {mm : Md} : nobE (some (x, mm) :: r) = (nob x && nobE r) := id rfl
@[simp] theorem nobE_0 : nobE [] = true := id rfl
@[simp] theorem con_0 : ([] : List Str).contains f = false := id rfl
end
end Y
namespace Y
open PySem L2 PyProof.Rows
section
variable {folk : List Int} {R0 : List (List Int)} {D0 : List Int}
theorem isrt_same {A B : List Int} (ha : A.Nodup) (hb : B.Nodup) (h : ∀ v, v ∈ A ↔ v ∈ B) : isrt A = isrt B :=
  isrt_eq ((isrt_perm B).trans ((List.perm_ext_iff_of_nodup hb ha).mpr fun v => (h v).symm)) (isrt_le B)
end
end Y
namespace Y
open PySem L2 PyProof.Rows
end Y
namespace Y
open PySem L2 PyProof.Rows
theorem wS_wh {c : Ev → Ou Bool} {body : Ev → So} {r : Ev} {Qn : Ev → Prop} {Qr : Vl → Ev → Prop} {Qb Qc : Ev → Prop} (P : Nat → Ev → Prop) {n : Nat} (hn : n < 100000) (h0 : P n r)
    (hs : ∀ k r, P k r → wT c r fun b r1 => (b = false → Qn r1) ∧ (b = true → ∃ j, j < k ∧ wS body r1 (P j) Qr Qn (P j))) : wS (sWh c body) r Qn Qr Qb Qc := by
  have go : ∀ (m k : Nat) (r : Ev), k < m → P k r → wS (fun r => whN c body m r) r Qn Qr Qb Qc := by
    intro m
    induction m with
    | zero => intro k r h; omega
    | succ m ih =>
      intro k r hk hp
      have h1 := hs k r hp
      unfold wT at h1
      unfold wS
      simp only [whN]
      cases hc : c r with
      | ok b r1 =>
        rw [hc] at h1
        simp only at h1
        cases b with
        | false => exact h1.1 rfl
        | true =>
          obtain ⟨j, hj, h2⟩ := h1.2 rfl
          unfold wS at h2
          simp only
          have nx : ∀ r3, P j r3 → wS (fun r => whN c body m r) r3 Qn Qr Qb Qc := fun r3 h3 => ih j r3 (by omega) h3
          cases hb : body r1 with
          | nx r3 => rw [hb] at h2; exact nx r3 h2
          | ct r3 => rw [hb] at h2; exact nx r3 h2
          | bk r3 => rw [hb] at h2; exact h2
          | rt z r3 => rw [hb] at h2; exact h2
          | ex _ _ _ => rw [hb] at h2; exact h2
          | no => rw [hb] at h2; exact h2
      | ex _ _ _ => rw [hc] at h1; exact h1
      | no => rw [hc] at h1; exact h1
  have := go FUEL n r hn h0
  unfold wS at this ⊢
  simp only [sWh]
  exact this
/-- how many ones by twos -/
def onesN : Nat → Nat
  | 0 => 0
  | n + 1 => (n + 1) % 2 + onesN ((n + 1) / 2)
decreasing_by omega
theorem onesN_eq (n : Nat) : onesN n = n % 2 + onesN (n / 2) := by
  cases n with
  | zero => simp [onesN]
  | succ n => rw [onesN]
theorem onesN_dbl (n : Nat) (b : Nat) (hb : b < 2) : onesN (b + 2 * n) = b + onesN n := by
  rw [onesN_eq, show (b + 2 * n) % 2 = b by omega, show (b + 2 * n) / 2 = n by omega]
/-- how many ones it has at its end -/
def lowN (n : Nat) : Nat := if h : n % 2 = 1 then 1 + lowN (n / 2) else 0
decreasing_by omega
theorem lowN_o (n : Nat) : lowN (1 + 2 * n) = 1 + lowN n := by
  rw [lowN, dif_pos (by omega), show (1 + 2 * n) / 2 = n by omega]
theorem lowN_e (n : Nat) : lowN (2 * n) = 0 := by
  rw [lowN, dif_neg (by omega)]
theorem ones_next : ∀ n : Nat, onesN (n + 1) + lowN n = onesN n + 1 := by
  intro n
  induction n using Nat.strongRecOn with
  | ind n ih =>
    by_cases h : n % 2 = 1
    · obtain ⟨k, rfl⟩ : ∃ k, n = 1 + 2 * k := ⟨n / 2, by omega⟩
      have := ih k (by omega)
      rw [lowN_o, show 1 + 2 * k + 1 = 0 + 2 * (k + 1) by omega, onesN_dbl _ 0 (by omega), onesN_dbl _ 1 (by omega)]
      omega
    · obtain ⟨k, rfl⟩ : ∃ k, n = 2 * k := ⟨n / 2, by omega⟩
      rw [lowN_e, show 2 * k + 1 = 1 + 2 * k by omega, onesN_dbl _ 1 (by omega)]
      have := onesN_dbl k 0 (by omega)
      rw [Nat.zero_add] at this
      rw [this]
      omega
theorem ones_pow (t : Nat) : onesN (2 ^ t) = 1 := by
  induction t with
  | zero => simp [onesN]
  | succ t ih =>
    have := onesN_dbl (2 ^ t) 0 (by omega)
    rw [Nat.zero_add] at this
    rw [Nat.pow_succ, Nat.mul_comm, this, ih]
/-- the least number of those whose heaviest one has rank t, whose others have the number s -/
def baseN (t s : Nat) : Int := 3 + t + ((t : Int) - 2) * 2 ^ t + t * s + onesN s
theorem base_next (t s : Nat) : baseN t (s + 1) = baseN t s + t + 1 - lowN s := by
  have := ones_next s
  have e : (t : Int) * ((s + 1 : Nat) : Int) = t * s + t := by rw [Int.natCast_add, Int.mul_add]; simp
  unfold baseN
  rw [e]
  omega
theorem base_top (t : Nat) : baseN t (2 ^ t) = baseN (t + 1) 0 := by
  have e : (t : Int) * ((2 ^ t : Nat) : Int) = t * 2 ^ t := by rw [Int.natCast_pow]; rfl
  have e2 : (((t + 1 : Nat) : Int) - 2) * 2 ^ (t + 1) = 2 * (t * 2 ^ t) - 2 * 2 ^ t := by
    rw [Int.pow_succ, Int.natCast_add, show ((t : Int) + ((1 : Nat) : Int) - 2) = (t : Int) - 1 by omega, Int.sub_mul, ← Int.mul_assoc]
    omega
  have e3 : ((t : Int) - 2) * 2 ^ t = t * 2 ^ t - 2 * 2 ^ t := Int.sub_mul _ _ _
  unfold baseN
  rw [e, e2, e3, ones_pow, show onesN 0 = 0 by simp [onesN]]
  simp only [Int.natCast_zero, Int.mul_zero, Int.natCast_add]
  omega
theorem low_le : ∀ (t s : Nat), s < 2 ^ t → lowN s ≤ t := by
  intro t
  induction t with
  | zero =>
    intro s h
    have : s = 2 * 0 := by omega
    rw [this, lowN_e]
    omega
  | succ t ih =>
    intro s h
    by_cases c : s % 2 = 1
    · obtain ⟨k, rfl⟩ : ∃ k, s = 1 + 2 * k := ⟨s / 2, by omega⟩
      rw [lowN_o]
      have := ih k (by rw [Nat.pow_succ] at h; omega)
      omega
    · rw [lowN, dif_neg c]
      omega
theorem base_le {t s : Nat} : ∀ {s' : Nat}, s ≤ s' → s' ≤ 2 ^ t → baseN t s ≤ baseN t s' := by
  intro s' h h2
  induction s' with
  | zero => rw [show s = 0 by omega]; omega
  | succ s' ih =>
    by_cases c : s = s' + 1
    · rw [c]; omega
    · have := ih (by omega) (by omega)
      have := low_le t s' (by omega)
      rw [base_next]
      omega
theorem base_up {t : Nat} : ∀ {t' : Nat}, t ≤ t' → baseN t 0 ≤ baseN t' 0 := by
  intro t' h
  induction t' with
  | zero => rw [show t = 0 by omega]; omega
  | succ t' ih =>
    by_cases c : t = t' + 1
    · rw [c]; omega
    · have := ih (by omega)
      have := base_le (t := t') (s := 0) (s' := 2 ^ t') (Nat.zero_le _) (Nat.le_refl _)
      rw [← base_top]
      omega
theorem base_1 (t s : Nat) (h : s ≤ 2 ^ t) : 1 ≤ baseN t s := by
  have h1 := base_up (t := 0) (t' := t) (by omega)
  have h2 := base_le (t := t) (s := 0) (s' := s) (by omega) h
  have : baseN 0 0 = 1 := by simp [baseN, onesN]
  omega
/-- by twos, as a number from nought on -/
def hvN (p : Int → Bool) : List Int → Nat
  | [] => 0
  | v :: vs => (if p v then 1 else 0) + 2 * hvN p vs
theorem hvN_hi (p : Int → Bool) : ∀ L, hvN p L < 2 ^ L.length
  | [] => by simp [hvN]
  | v :: vs => by
    have := hvN_hi p vs
    rw [hvN, List.length_cons, Nat.pow_succ]
    split <;> omega
theorem hvN_app (p : Int → Bool) : ∀ (L M : List Int), hvN p (L ++ M) = hvN p L + 2 ^ L.length * hvN p M
  | [], M => by simp [hvN]
  | a :: L, M => by
    rw [List.cons_append, hvN, hvN, hvN_app p L M, List.length_cons, Nat.pow_succ, Nat.mul_add, Nat.mul_comm (2 ^ L.length) 2, Nat.mul_assoc]
    omega
theorem hvN_low {p : Int → Bool} : ∀ {L : List Int} {i : Nat} {v : Int}, L[i]? = some v → p v = false → lowN (hvN p L) ≤ i
  | [], i, v, h, _ => by simp at h
  | a :: L, 0, v, h, hp => by
    simp only [List.getElem?_cons_zero, Option.some.injEq] at h
    subst h
    rw [hvN, hp]
    simp only [Bool.false_eq_true, if_false, Nat.zero_add, lowN_e]
    omega
  | a :: L, i + 1, v, h, hp => by
    simp only [List.getElem?_cons_succ] at h
    have := hvN_low h hp
    rw [hvN]
    cases p a with
    | false => simp only [Bool.false_eq_true, if_false, Nat.zero_add, lowN_e]; omega
    | true => simp only [if_true, lowN_o]; omega
theorem hvN_none {p : Int → Bool} : ∀ {L : List Int}, (∀ v ∈ L, p v = false) → hvN p L = 0
  | [], _ => rfl
  | a :: L, h => by rw [hvN, h a List.mem_cons_self, hvN_none fun v hv => h v (List.mem_cons_of_mem _ hv)]; rfl
theorem idx_li {w : Int} : ∀ {F : List Int}, w ∈ F → (F.map Dt.i).findIdx? (fun z => eqD z (.i w)) = some (F.idxOf w)
  | [], h => by simp at h
  | a :: F, h => by
    rw [List.map_cons, List.findIdx?_cons, List.idxOf_cons, eqD_i]
    by_cases c : a = w
    · subst c; simp
    · have hw : w ∈ F := (List.mem_cons.mp h).resolve_left fun e => c e.symm
      rw [idx_li hw]
      have : (a == w) = false := by simpa using c
      simp [c, this]
theorem wO_idxI {ns : List Int} {a : Int} (h : a ∈ ns) {Q : Dt → Md → Prop} : wO (fIdx [.l (ns.map .i), .i a]) Q = Q (.i (ns.idxOf a : Nat)) .c := by
  simp only [fIdx, shp_li, shp_i, Bool.and_self, if_true, idx_li h, Option.map_some, wO_some]
end Y
namespace Y
open PySem L2 PyProof.Rows
theorem pow2 (k : Nat) : 2 ^ (k + 1) = 2 * 2 ^ k := by rw [Nat.pow_succ]; omega
theorem pow1 (k : Nat) : 1 ≤ 2 ^ k := Nat.one_le_two_pow
/-- whether a number has that two -/
def bitN (r j : Nat) : Bool := decide (r / 2 ^ j % 2 = 1)
theorem bit_0 (r : Nat) : bitN r 0 = decide (r % 2 = 1) := by simp [bitN]
theorem bit_s (r j : Nat) : bitN r (j + 1) = bitN (r / 2) j := by
  simp only [bitN]
  rw [pow2, ← Nat.div_div_eq_div_mul]
theorem bit_low : ∀ (j r : Nat), j < lowN r → bitN r j = true
  | 0, r, h => by
    rw [bit_0]
    by_cases c : r % 2 = 1
    · simp [c]
    · rw [lowN, dif_neg c] at h; omega
  | j + 1, r, h => by
    rw [bit_s]
    by_cases c : r % 2 = 1
    · rw [lowN, dif_pos c] at h
      exact bit_low j _ (by omega)
    · rw [lowN, dif_neg c] at h; omega
theorem bit_at : ∀ (n r : Nat), lowN r = n → bitN r n = false
  | 0, r, h => by
    rw [bit_0]
    by_cases c : r % 2 = 1
    · rw [lowN, dif_pos c] at h; omega
    · simp [c]
  | n + 1, r, h => by
    rw [bit_s]
    by_cases c : r % 2 = 1
    · rw [lowN, dif_pos c] at h
      exact bit_at n _ (by omega)
    · rw [lowN, dif_neg c] at h; omega
theorem bit_zero (j : Nat) : bitN 0 j = false := by simp [bitN]
end Y
namespace Y
open PySem L2 PyProof.Rows
end Y
namespace Y
open PySem L2 PyProof.Rows
end Y
namespace Y
open PySem L2 PyProof.Rows
abbrev XQ := Str → List (Str × Dt) → Ev → Prop
section
variable {f g : Ev → Ou Vl} {c : Ev → Ou Bool} {s u : Ev → So} {r : Ev} {X : XQ} {as : List Am} {fn : Fn} {p : List Dt → Option Vl} {x fl : Str} {i n : Nat}
@[simp] theorem wS_raise1 {Qn Qb Qc : Ev → Prop} {Qr : Vl → Ev → Prop} : wS (sRaise1 x fl f) r Qn Qr Qb Qc = False := by
  unfold wS
  simp only [sRaise1]
  cases f r with
  | ok y r' =>
    obtain ⟨y, m⟩ := y
    by_cases hy : y.flat = true <;> simp [hy]
  | ex _ _ _ => rfl
  | no => rfl
@[simp] theorem wS_raise0 {Qn Qb Qc : Ev → Prop} {Qr : Vl → Ev → Prop} : wS (sRaise0 x) r Qn Qr Qb Qc = False := id rfl
@[simp] theorem isn_x {c : Str} {ns : List Str} {fs : List Dt} : isn (.x c ns fs) = false := id rfl
@[simp] theorem wO_iscN {tb : List (Str × Bool)} {Q : Dt → Md → Prop} : wO (fIsc tb [.n]) Q = Q (.b false) .c := id rfl
end
section
variable {f g : Ev → Ou Vl} {r : Ev} {i : Nat}
@[simp] theorem wO_lr1 {n : Int} {Q : Dt → Md → Prop} : wO (fLr1 [.i n]) Q = ((-(2 ^ 60) ≤ n ∧ n ≤ LIM) ∧ Q (.l (rngD 0 n.toNat)) .t) := by
  unfold fLr1; rw [wO_if]
@[simp] theorem wO_lr2 {a b : Int} {Q : Dt → Md → Prop} : wO (fLr2 [.i a, .i b]) Q = ((-(2 ^ 60) ≤ a ∧ a ≤ 2 ^ 60 ∧ -(2 ^ 60) ≤ b ∧ b ≤ 2 ^ 60 ∧ b - a ≤ LIM) ∧ Q (.l (rngD a (b - a).toNat)) .t) := by
  unfold fLr2; rw [wO_if]
@[simp] theorem tru_n : tru .n = some false := id rfl
@[simp] theorem tru_t {xs : List Dt} : tru (.t xs) = some (!xs.isEmpty) := id rfl
@[simp] theorem tru_l {xs : List Dt} : tru (.l xs) = some (!xs.isEmpty) := id rfl
def wTr (o : Option Bool) (P Q : Prop) : Prop := match o with
  | some true => P
  | some false => Q
  | none => False
@[simp] theorem wTr_t {P Q : Prop} : wTr (some true) P Q = P := id rfl
@[simp] theorem wTr_f {P Q : Prop} : wTr (some false) P Q = Q := id rfl
@[simp] theorem wE_OrT {Q : Vl → Ev → Prop} : wE (mOrT f g) r Q = wE f r fun x r1 => wTr (tru x.1) (Q (x.1, .c) r1) (wE g r1 Q) := by
  unfold wE wTr
  simp only [mOrT]
  cases f r with
  | ok x r1 =>
    obtain ⟨x, m⟩ := x
    simp only
    cases tru x with
    | none => rfl
    | some k => cases k <;> rfl
  | ex _ _ _ => rfl
  | no => rfl
end
end Y
namespace Y
open PySem L2 PyProof.Rows
end Y
namespace Y
open PySem L2 PyProof.Rows
end Y
namespace Y
open PySem L2 PyProof.Rows
section
variable {Q : Dt → Md → Prop} {xs ys : List Dt}
@[simp] theorem wO_lz : wO (fLz [.l xs, .l ys]) Q = ((zipD xs ys).length ≤ LIM ∧ Q (.l (zipD xs ys)) .t) := by
  simp only [fLz]
  split
  · simp [wO_some, *]
  · simp [wO, *]
@[simp] theorem wO_revT : wO (fRevT [.t xs]) Q = Q (.t xs.reverse) .c := id rfl
@[simp] theorem wO_lenSetD {ns : List Int} : wO (fLenSetD [.l (ns.map .i)]) Q = (ns.length ≤ 4000 ∧ Q (.i (ssrt ns).length) .c) := by
  simp only [fLenSetD, intsL, ints_map]
  split
  · simp [wO_some, *]
  · simp [wO, *]
@[simp] theorem wO_srtSet {ns : List Int} : wO (fSrtSet [.t (ns.map .i)]) Q = (ns.length < 64 ∧ Q (.l ((ssrt ns).map .i)) .t) := by
  simp only [fSrtSet, intsL, ints_map]
  split
  · simp [wO_some, *]
  · simp [wO, *]
end
section
@[simp] theorem wT_If {t f g : Ev → Ou Bool} {r : Ev} {QT : Bool → Ev → Prop} : wT (mTIf t f g) r QT = wT t r fun k r1 => (k = true → wT f r1 QT) ∧ (k = false → wT g r1 QT) := by
  unfold wT
  simp only [mTIf]
  cases t r with
  | ok k r1 => cases k <;> simp
  | ex _ _ _ => rfl
  | no => rfl
@[simp] theorem wE_SlZ {A : Am} {r : Ev} {lo hi : Option (Ev → Ou Vl)} {Q : Vl → Ev → Prop} : wE (mSlZ A lo hi) r Q = wA [A] r fun ys r1 => wP lo r1 fun l r2 => wP hi r2 fun h r3 => wL (look r3 ys) fun xs => match xs with
    | [x] => wO (fSl l h x) fun y m => wM (y, m) ys r3 (Q (y, m))
    | _ => False := by
  unfold wE wA wM
  simp only [mSlZ]
  cases evA [A] r with
  | ok ys r1 =>
    simp only
    unfold wP
    cases evP lo r1 with
    | ok l r2 =>
      simp only
      cases evP hi r2 with
      | ok u r3 =>
        simp only
        cases look r3 ys with
        | none => rfl
        | some xs =>
          simp only [wL_some]
          match xs with
          | [] => rfl
          | [x] =>
            simp only
            cases fSl l u x with
            | none => rfl
            | some y => rfl
          | _ :: _ :: _ => rfl
      | ex _ _ _ => rfl
      | no => rfl
    | ex _ _ _ => rfl
    | no => rfl
  | ex _ _ _ => rfl
  | no => rfl
end
section
variable {r : Ev} {QE : Vl → Ev → Prop} {Q : Dt → Md → Prop} {ks vs : List Dt} {x : Dt}
@[simp] theorem wE_Dc {vs : List Nat} {q : Ev → Ou (List Dt)} {t : Vl → Ev → Option Ev} {c : Ev → Ou Bool} {kf vf : Ev → Ou Vl} : wE (mDc vs q t c kf vf) r QE = wI q r fun xs r1 => xs.length ≤ LIM ∧ ∃ acc, dcL t c kf vf (wipeE (coldE r1) vs) xs [] = some acc ∧ QE (.m (acc.map fun p => keyD p.1) (acc.map (·.2)), .c) (coldE r1) := by
  unfold wE wI
  simp only [mDc]
  cases q r with
  | ok xs r1 =>
    simp only
    by_cases h : xs.length ≤ LIM
    · rw [if_pos h]
      cases e : dcL t c kf vf (wipeE (coldE r1) vs) xs [] with
      | some acc =>
        simp only [eq_iff_iff]
        exact ⟨fun z => ⟨h, acc, rfl, z⟩, fun ⟨_, acc', h1, h2⟩ => by cases h1; exact h2⟩
      | none => simp
    · simp [h]
  | ex _ _ _ => simp
  | no => simp
@[simp] theorem coldE_nil : coldE [] = [] := id rfl
@[simp] theorem coldE_n : coldE (none :: r) = none :: coldE r := id rfl
@[simp] theorem coldE_s {x : Dt} {m : Md} : coldE (some (x, m) :: r) = some (x, .c) :: coldE r := id rfl
@[simp] theorem wO_minO {k v : Dt} : wO (fMinO [.m [k] [v]]) Q = Q v .c := id rfl
end
section
variable {f : Ev → Ou Vl} {r : Ev} {Q : Vl → Ev → Prop} {i : Nat} {fs : List (Ev → Ou Vl)}
@[simp] theorem wE_Vo : wE (mVo i) r Q = wG r[i]? fun x m => Q (x, m) (r.set i none) := by
  unfold wE wG
  simp only [mVo]
  cases r[i]? with
  | none => rfl
  | some o => cases o with
    | none => rfl
    | some x => rfl
@[simp] theorem wE_TupO : wE (mTupO fs) r Q = wH fs r fun xs r1 => (xs.length ≤ LIM ∧ xs.all zfl = true) ∧ Q (.t (xs.map (·.1)), .a) r1 := by
  unfold wE wH
  simp only [mTupO]
  cases evH fs r with
  | ok xs r1 =>
    simp only
    by_cases h : xs.length ≤ LIM ∧ xs.all zfl = true
    · rw [if_pos h]; simp [h]
    · rw [if_neg h]; simp only [h, false_and]
  | ex _ _ _ => rfl
  | no => rfl
def wIA (x : Dt) (m : Md) (k : Nat) (Q : Dt → Prop) : Prop := match x, m with
  | .t xs, .a => match xs[k]? with
    | some y => Q y
    | none => False
  | _, _ => False
@[simp] theorem wIA_t {xs : List Dt} {k : Nat} {Q : Dt → Prop} : wIA (.t xs) .a k Q = (match xs[k]? with | some y => Q y | none => False) := id rfl
@[simp] theorem wE_IxA {k : Nat} : wE (mIxA f k) r Q = wE f r fun x r1 => wIA x.1 x.2 k fun y => Q (y, .a) r1 := by
  unfold wE
  simp only [mIxA]
  cases f r with
  | ok x r1 =>
    obtain ⟨x, m⟩ := x
    simp only
    cases x with
    | t xs =>
      cases m with
      | a =>
        simp only [wIA_t]
        cases e : xs[k]? with
        | none => simp
        | some y => simp
      | _ => rfl
    | _ => rfl
  | ex _ _ _ => rfl
  | no => rfl
end
end Y
namespace Y
open PySem L2 PyProof.Rows
section
variable {f g : Ev → Ou Vl} {fs : List (Ev → Ou Vl)} {r : Ev} {i : Nat} {xs : List Dt} {y : Dt} {Qn Qb Qc : Ev → Prop} {Qr : Vl → Ev → Prop}
/-- one more ahead of all at that path -/
def wIn0 : Dt → List Int → Dt → (Dt → Prop) → Prop
  | .l xs, [], y, Q => xs.length < LIM ∧ Q (.l (y :: xs))
  | .l xs, k :: ks, y, Q => wAj xs k fun j x => wIn0 x ks y fun x' => Q (.l (xs.set j x'))
  | _, _, _, _ => False
@[simp] theorem wIn0_n {Q : Dt → Prop} : wIn0 (.l xs) [] y Q = (xs.length < LIM ∧ Q (.l (y :: xs))) := id rfl
@[simp] theorem wIn0_c {k : Int} {ks : List Int} {Q : Dt → Prop} : wIn0 (.l xs) (k :: ks) y Q = wAj xs k fun j x => wIn0 x ks y fun x' => Q (.l (xs.set j x')) := id rfl
end
end Y
namespace Y
open PySem L2 PyProof.Rows
/-- so many of n, by sums -/
def ch : Nat → Nat → Nat
  | _, 0 => 1
  | 0, _ + 1 => 0
  | n + 1, k + 1 => ch n k + ch n (k + 1)
/-- so many rows of k of v values that don't fall -/
def wy (v k : Nat) : Nat := ch (v + k - 1) k
/-- those that begin lower -/
def wsum (n k l c : Nat) : Nat := ((List.range (c - l)).map fun i => wy (n - (l + i)) k).sum
/-- cuts from l on, none below the one ahead, below n -/
def Val (n : Nat) : Nat → List Nat → Prop
  | _, [] => True
  | l, c :: cs => l ≤ c ∧ c < n ∧ Val n c cs
/-- how many lists of as many cuts are lesser -/
def num (n : Nat) : Nat → List Nat → Nat
  | _, [] => 0
  | l, c :: cs => wsum n cs.length l c + num n c cs
theorem Val.mono {n : Nat} : ∀ {cs : List Nat} {l l' : Nat}, Val n l cs → l' ≤ l → Val n l' cs
  | [], _, _, _, _ => trivial
  | _ :: _, _, _, ⟨h1, h2, h3⟩, h => ⟨by omega, h2, h3⟩
theorem Val.lt {n : Nat} : ∀ {cs : List Nat} {l : Nat}, Val n l cs → ∀ c ∈ cs, l ≤ c ∧ c < n
  | c :: cs, l, ⟨h1, h2, h3⟩, x, hx => by
    rcases List.mem_cons.mp hx with rfl | hx
    · exact ⟨h1, h2⟩
    · have := h3.lt x hx
      exact ⟨by omega, this.2⟩
@[simp] theorem wL_rng3 {i j : Int} {QL : List Dt → Prop} : wL (sRng3 [.i i, .i j, .i (-1)]) QL = ((-(2 ^ 60) ≤ i ∧ i ≤ 2 ^ 60 ∧ -(2 ^ 60) ≤ j ∧ j ≤ 2 ^ 60 ∧ i - j ≤ LIM) ∧ QL (rngC i (-1) (i - j).toNat)) := by
  show wL (if (-1 : Int) = -1 ∧ -(2 ^ 60) ≤ i ∧ i ≤ 2 ^ 60 ∧ -(2 ^ 60) ≤ j ∧ j ≤ 2 ^ 60 ∧ i - j ≤ LIM then some (rngC i (-1) (i - j).toNat) else none) QL = _
  simp only [true_and]
  exact wL_if
/-- an item of an item -/
def wIx2 (x z : Dt) (k : Int) (Q : Dt → Prop) : Prop := match z with
  | .i l => match x with
    | .l xs => wAt xs k fun y => match y with
      | .l ys => wAt ys l fun w => w.flat = true ∧ Q w
      | _ => False
    | _ => False
  | _ => False
@[simp] theorem wIx2_l {xs : List Dt} {k l : Int} {Q : Dt → Prop} : wIx2 (.l xs) (.i l) k Q = wAt xs k fun y => match y with
      | .l ys => wAt ys l fun w => w.flat = true ∧ Q w
      | _ => False := id rfl
theorem wIx2_eq {x z : Dt} {k : Int} {r1 : Ev} {Q : Vl → Ev → Prop} : (match ix2G x z k r1 with
    | .ok y r2 => Q y r2
    | _ => False) = wIx2 x z k fun y => Q (y, .c) r1 := by
  unfold wIx2
  cases z with
  | i l =>
    cases x with
    | l xs =>
      simp only [ix2G, getP, wAt]
      cases h1 : atI xs k with
      | none => simp
      | some y =>
        cases y with
        | l ys =>
          simp only [Option.bind_some, getP]
          cases h3 : atI ys l with
          | none => simp [h3]
          | some w =>
            by_cases hw : w.flat = true
            · simp [h3, hw]
            · simp [h3, hw]
        | _ => simp [getP]
    | _ => simp [ix2G, getP]
  | _ => simp [ix2G]
@[simp] theorem wE_Ix2 {i j : Nat} {f : Ev → Ou Vl} {r : Ev} {Q : Vl → Ev → Prop} : wE (mIx2 i f j) r Q = wG r[i]? fun _ _ => wE f r fun k r1 => match k.1 with
    | .i k => wG r1[i]? fun x _ => wG r1[j]? fun z _ => wIx2 x z k fun y => Q (y, .c) r1
    | _ => False := by
  unfold wG wE
  simp only [mIx2]
  cases hr : r[i]? with
  | none => rfl
  | some oo =>
  cases oo with
  | none => rfl
  | some xm =>
    simp only
    cases hf : f r with
    | no => rfl
    | ex _ _ _ => rfl
    | ok kd r1 =>
      obtain ⟨kd, mk⟩ := kd
      simp only
      cases kd with
      | i k =>
        simp only
        cases hri : r1[i]? with
        | none => rfl
        | some oo =>
        cases oo with
        | none => rfl
        | some xm =>
          simp only
          cases hrj : r1[j]? with
          | none => rfl
          | some oo =>
          cases oo with
          | none => rfl
          | some zm =>
            simp only
            exact wIx2_eq
      | _ => rfl
end Y
namespace Y
open PySem L2 PyProof.Rows
theorem toPL_ints (ns : List Int) : toPL (ns.map Dt.i) = ns.map .int := by
  induction ns with
  | nil => rfl
  | cons n ns ih => simp only [List.map_cons, toPL, ih, toP]
end Y
namespace Y
open PySem L2 PyProof.Rows
end Y
namespace Y
open L2
section
variable {r : Ev} {QE : Vl → Ev → Prop} {Q : Dt → Md → Prop} {ks vs : List Dt} {x : Dt} {m : Md} {i : Nat} {f : Ev → Ou Vl}
@[simp] theorem wK_tgD {Q : Ev → Prop} : wK (tgD i f (x, m) r) Q = (isM i r = true ∧ wE f r fun k r1 => match r1[i]? with
    | some (some (.m ks vs, .a)) => ∃ ke, keyOf k.1 = some ke ∧ x.flat = true ∧ ks.length < LIM ∧ setK r1 i (some (.m (putM ks vs ke x).1 (putM ks vs ke x).2, .a)) Q
    | _ => False) := by
  unfold wK tgD wE setK
  by_cases h : isM i r = true
  · rw [if_pos h]
    simp only [h, true_and]
    cases f r with
    | ok k r1 =>
      obtain ⟨k, mk⟩ := k
      simp only
      cases hr : r1[i]? with
      | none => rfl
      | some o =>
        cases o with
        | none => rfl
        | some z =>
          obtain ⟨z, mz⟩ := z
          cases z with
          | m ks vs =>
            cases mz with
            | a =>
              simp only
              cases hk : keyOf k with
              | none => simp
              | some ke =>
                simp only [Option.some.injEq]
                by_cases hc : x.flat = true ∧ ks.length < LIM
                · rw [if_pos hc]
                  simp only [eq_iff_iff]
                  exact ⟨fun z => ⟨ke, rfl, hc.1, hc.2, z⟩, fun ⟨k2, e, _, _, z⟩ => by cases e; exact z⟩
                · rw [if_neg hc]
                  simp only [false_iff, eq_iff_iff]
                  rintro ⟨k2, e, h1, h2, _⟩
                  exact hc ⟨h1, h2⟩
            | c => rfl
            | t => rfl
          | _ => rfl
    | ex _ _ _ => rfl
    | no => rfl
  · rw [if_neg h]
    simp [h]
@[simp] theorem wE_dnew : wE mDNew r QE = QE (dM [], .a) r := id rfl
end
end Y
namespace Y
open L2
section
variable {r : Ev} {xs : List Dt} {ts : List (Vl → Ev → Option Ev)}
@[simp] theorem wK_tgTO {Q : Ev → Prop} : wK (tgTO ts (.t xs, .a) r) Q = wK (tgsO ts xs r) Q := id rfl
@[simp] theorem wK_tgsO0 {Q : Ev → Prop} : wK (tgsO [] [] r) Q = Q r := id rfl
@[simp] theorem wK_tgsO {Q : Ev → Prop} {t : Vl → Ev → Option Ev} {x : Dt} : wK (tgsO (t :: ts) (x :: xs) r) Q = wK (t (ownV x) r) fun r1 => wK (tgsO ts xs r1) Q := by
  unfold wK
  simp only [tgsO]
  cases t (ownV x) r <;> rfl
@[simp] theorem isM_0 {ks vs : List Dt} : isM 0 (some (.m ks vs, .a) :: r) = true := id rfl
@[simp] theorem isM_s {o : Option Vl} {i : Nat} : isM (i + 1) (o :: r) = isM i r := id rfl
@[simp] theorem ownV_l {xs : List Dt} : ownV (.l xs) = (.l xs, .a) := id rfl
@[simp] theorem ownV_m {xs ys : List Dt} : ownV (.m xs ys) = (.m xs ys, .a) := id rfl
@[simp] theorem ownV_i {k : Int} : ownV (.i k) = (.i k, .c) := id rfl
end
end Y
namespace Y
open L2
section
variable {r : Ev} {QE : Vl → Ev → Prop} {Q : Dt → Md → Prop} {vs vs1 : List Nat} {t t1 : Vl → Ev → Option Ev} {c c1 : Ev → Ou Bool} {kf vf : Ev → Ou Vl} {q s1 : Ev → Ou (List Dt)}
@[simp] theorem wE_DcE : wE (mDcE vs q t c kf vf) r QE = wI q r fun xs r1 => xs.length ≤ LIM ∧ ∃ acc r2, dcE vs t c kf vf xs (wipeE r1 vs) [] = .ok acc r2 ∧ QE (dM acc, .a) (rsE r1 vs r2) := by
  unfold wE wI
  simp only [mDcE]
  cases q r with
  | ok xs r1 =>
    simp only
    by_cases h : xs.length ≤ LIM
    · rw [if_pos h]
      cases e : dcE vs t c kf vf xs (wipeE r1 vs) [] with
      | ok acc r2 =>
        simp only [eq_iff_iff]
        exact ⟨fun z => ⟨h, acc, r2, rfl, z⟩, fun ⟨_, a, b, h1, h2⟩ => by cases h1; exact h2⟩
      | ex _ _ _ => simp
      | no => simp
    · simp [h]
  | ex _ _ _ => rfl
  | no => rfl
@[simp] theorem wE_Dc2 : wE (mDc2 vs vs1 q t c s1 t1 c1 kf vf) r QE = wI q r fun xs r1 => ∃ acc r2, dc2E vs vs1 t c s1 t1 c1 kf vf xs (wipeE r1 vs) [] = .ok acc r2 ∧ QE (dM acc, .a) (rsE r1 vs r2) := by
  unfold wE wI
  simp only [mDc2]
  cases q r with
  | ok xs r1 =>
    simp only
    cases e : dc2E vs vs1 t c s1 t1 c1 kf vf xs (wipeE r1 vs) [] with
    | ok acc r2 =>
      simp only [eq_iff_iff]
      exact ⟨fun z => ⟨acc, r2, rfl, z⟩, fun ⟨a, b, h1, h2⟩ => by cases h1; exact h2⟩
    | ex _ _ _ => simp
    | no => simp
  | ex _ _ _ => rfl
  | no => rfl
end
end Y
namespace Y
open PySem L2
section
variable {Q : Dt → Md → Prop} {xs : List Dt}
@[simp] theorem wO_rev0T : wO (fRev0T [.t xs]) Q = Q (.t (xs.drop 1).reverse) .c := id rfl
@[simp] theorem wE_Pk {p : List Dt → Option Vl} {as : List Am} {r : Ev} {Q : Vl → Ev → Prop} : wE (mPk p as) r Q = wA as r fun ys r1 => wL (look r1 ys) fun xs => wO (p xs) fun x m => wM (x, m) ys r1 (Q (x, m)) := by
  unfold wE wA wL wO wM
  simp only [mPk]
  cases evA as r with
  | ok ys r1 =>
    simp only
    cases look r1 ys with
    | none => rfl
    | some xs =>
      simp only
      cases p xs <;> rfl
  | ex _ _ _ => rfl
  | no => rfl
@[simp] theorem wO_srtSetL {ns : List Int} : wO (fSrtSetL [.l (ns.map .i)]) Q = (ns.length < 64 ∧ Q (.l ((ssrt ns).map .i)) .t) := by
  simp only [fSrtSetL, ints_map]
  by_cases h : ns.length < 64
  · rw [if_pos h]; simp [h]
  · rw [if_neg h]; simp [h]
end
section
variable {r : Ev} {Q : Vl → Ev → Prop} {c f : Str} {i j : Nat} {g : Ev → Ou Vl} {x : Dt} {m : Md}
def wOb (o : Option (Option Vl)) (F : Str → List Str → List Dt → Prop) (P : Prop) : Prop := match o with
  | some (some (.o c ns fs, .a)) => F c ns fs
  | _ => P
@[simp] theorem wOb_o {ns : List Str} {fs : List Dt} {F : Str → List Str → List Dt → Prop} {P : Prop} : wOb (some (some (.o c ns fs, .a))) F P = F c ns fs := id rfl
@[simp] theorem wOb_c {y : Dt} {F : Str → List Str → List Dt → Prop} {P : Prop} : wOb (some (some (y, .c))) F P = P := by unfold wOb; cases y <;> rfl
@[simp] theorem okO_e : okO i r = (r.set i none).all flS := id rfl
@[simp] theorem wE_lendO : wE (mLendO i g) r Q = wOb r[i]? (fun c ns fs => wE g (r.set i (some (.o c ns fs, .c))) fun x r2 => wB (zfl x && okO i r2 && decide (i < r2.length)) (setK r2 i (some (.o c ns fs, .a)) (Q x)) (Q x r2)) (wE g r Q) := by
  unfold wE wOb wB setK mLendO
  generalize r[i]? = oi
  cases oi with
  | none => rfl
  | some oi =>
  cases oi with
  | none => rfl
  | some oi =>
  obtain ⟨y, md⟩ := oi
  cases y with
  | o c ns fs =>
    cases md with
    | a =>
      simp only
      cases g (r.set i (some (.o c ns fs, .c))) with
      | ok xm r' =>
        simp only
        by_cases h : (zfl xm && okO i r' && decide (i < r'.length)) = true
        · rw [if_pos h, if_pos h]
        · rw [if_neg h, if_neg h]
      | ex _ _ _ => rfl
      | no => rfl
    | _ => rfl
  | _ => rfl
@[simp] theorem wE_MeI {fn : Fn} {as : List Am} : wE (mMeI c f fn i as) r Q = wG r[i]? fun x _ => (isO c f x = true ∧ wE (mCI fn i as) r Q) := by
  unfold wG wE
  simp only [mMeI]
  cases r[i]? with
  | none => rfl
  | some o =>
    cases o with
    | none => rfl
    | some xm =>
      obtain ⟨x, md⟩ := xm
      simp only
      by_cases h : isO c f x = true
      · rw [if_pos h]; simp [h]
      · rw [if_neg h]; simp [h]
@[simp] theorem wFn_mkO {fn : Fn} {xs : List Vl} {QF : Vl → Vl → Prop} : wFn (fnMkO c fn) xs QF = wFn fn ((.o c [] [], .a) :: xs) fun x z => x.1 = .n ∧ QF z (.n, .c) := by
  unfold wFn
  simp only [fnMkO]
  cases h : fn ((.o c [] [], .a) :: xs) with
  | no => rfl
  | ex _ _ _ => rfl
  | rt x z =>
    obtain ⟨x, m⟩ := x
    cases x <;> simp
@[simp] theorem wK_tgF {Q : Ev → Prop} : wK (tgF i c f (x, m) r) Q = wOb r[i]? (fun c' ns fs => c' = c ∧ zfl (x, m) = true ∧ ns.length < 900 ∧ setK r i (some (.o c (putFN f ns) (putFD f x ns fs), .a)) Q) False := by
  unfold wK tgF wOb setK
  generalize r[i]? = oi
  cases oi with
  | none => rfl
  | some oi =>
  cases oi with
  | none => rfl
  | some oi =>
  obtain ⟨y, md⟩ := oi
  cases y with
  | o c' ns fs =>
    cases md with
    | a =>
      simp only
      by_cases hc : c' = c ∧ zfl (x, m) = true ∧ ns.length < 900
      · rw [if_pos hc]; simp [hc]
      · rw [if_neg hc]
        simp only [eq_iff_iff, false_iff]
        exact fun z => hc ⟨z.1, z.2.1, z.2.2.1⟩
    | _ => rfl
  | _ => rfl
@[simp] theorem wK_tgFD {Q : Ev → Prop} : wK (tgFD i c f j (x, m) r) Q = wOb r[i]? (fun c' ns fs => wG r[j]? fun kd _ => match (ns.zip fs).lookup f with
    | some (.m ks vs) => ∃ k, keyOf kd = some k ∧ c' = c ∧ x.flat = true ∧ ks.length < LIM ∧ setK r i (some (.o c ns (putFD f (.m (putM ks vs k x).1 (putM ks vs k x).2) ns fs), .a)) Q
    | _ => False) False := by
  unfold wK tgFD wOb setK wG
  generalize r[i]? = oi
  generalize r[j]? = oj
  cases oi with
  | none => rfl
  | some oi =>
  cases oi with
  | none => rfl
  | some oi =>
  obtain ⟨y, md⟩ := oi
  cases y with
  | o c' ns fs =>
    cases md with
    | a =>
      cases oj with
      | none => rfl
      | some oj =>
      cases oj with
      | none => rfl
      | some kd =>
      obtain ⟨kd, mk⟩ := kd
      simp only
      generalize (ns.zip fs).lookup f = l
      cases l with
      | none => rfl
      | some z =>
      cases z with
      | m ks vs =>
        simp only
        cases hk : keyOf kd with
        | none => simp
        | some k =>
          simp only [Option.some.injEq, exists_eq_left']
          by_cases hc : c' = c ∧ x.flat = true ∧ ks.length < LIM
          · rw [if_pos hc]; simp [hc]
          · rw [if_neg hc]
            simp only [eq_iff_iff, false_iff]
            exact fun z => hc ⟨z.1, z.2.1, z.2.2.1⟩
      | _ => rfl
    | _ => rfl
  | _ => rfl
@[simp] theorem wS_delF {Qn : Ev → Prop} {Qr : Vl → Ev → Prop} {Qb Qc : Ev → Prop} : wS (sDelF i c f j) r Qn Qr Qb Qc = wOb r[i]? (fun c' ns fs => wG r[j]? fun kd _ => match (ns.zip fs).lookup f with
    | some (.m ks vs) => ∃ k, keyOf kd = some k ∧ c' = c ∧ (ks.any fun kd => decide (keyOf kd = some k)) = true ∧ setK r i (some (.o c ns (putFD f (.m (dropM k ks vs).1 (dropM k ks vs).2) ns fs), .a)) Qn
    | _ => False) False := by
  unfold wS sDelF wOb setK wG
  generalize r[i]? = oi
  generalize r[j]? = oj
  cases oi with
  | none => rfl
  | some oi =>
  cases oi with
  | none => rfl
  | some oi =>
  obtain ⟨y, md⟩ := oi
  cases y with
  | o c' ns fs =>
    cases md with
    | a =>
      cases oj with
      | none => rfl
      | some oj =>
      cases oj with
      | none => rfl
      | some kd =>
      obtain ⟨kd, mk⟩ := kd
      simp only
      generalize (ns.zip fs).lookup f = l
      cases l with
      | none => rfl
      | some z =>
      cases z with
      | m ks vs =>
        simp only
        cases hk : keyOf kd with
        | none => simp
        | some k =>
          simp only [Option.some.injEq, exists_eq_left']
          by_cases hc : c' = c ∧ (ks.any fun kd => decide (keyOf kd = some k)) = true
          · rw [if_pos hc]; simp [hc]
          · rw [if_neg hc]
            simp only [eq_iff_iff, false_iff]
            exact fun z => hc ⟨z.1, z.2.1⟩
      | _ => rfl
    | _ => rfl
  | _ => rfl
end
section
variable {r : Ev} {c f : Str} {i : Nat} {g k : Ev → So} {e : Ev → Ou Vl} {Qn : Ev → Prop} {Qr : Vl → Ev → Prop} {Qb Qc : Ev → Prop}
@[simp] theorem wS_fin : wS (sFin g k) r Qn Qr Qb Qc = wS g r (fun r1 => wS k r1 Qn (fun _ _ => False) (fun _ => False) fun _ => False) (fun _ _ => False) (fun _ => False) fun _ => False := by
  unfold wS
  simp only [sFin]
  cases g r with
  | nx r1 =>
    simp only
    cases k r1 <;> rfl
  | _ => rfl
@[simp] theorem mixE_0 {r' : Ev} : mixE [] r' = [] := id rfl
@[simp] theorem mixE_cc {o' : Option Vl} {x : Dt} {r r' : Ev} : mixE (some (x, .c) :: r) (o' :: r') = some (x, .c) :: mixE r r' := id rfl
@[simp] theorem mixE_ct {o' : Option Vl} {x : Dt} {r r' : Ev} : mixE (some (x, .t) :: r) (o' :: r') = o' :: mixE r r' := id rfl
@[simp] theorem mixE_ca {o' : Option Vl} {x : Dt} {r r' : Ev} : mixE (some (x, .a) :: r) (o' :: r') = o' :: mixE r r' := id rfl
@[simp] theorem mixE_cn {o' : Option Vl} {r r' : Ev} : mixE (none :: r) (o' :: r') = o' :: mixE r r' := id rfl
def okZ (r r' : Ev) : List Bool := List.zipWith (fun o o' => coldS o || flS o') r r'
@[simp] theorem okX_e {r r' : Ev} : okX i r r' = ((okZ r r').set i true).all id := id rfl
@[simp] theorem okZ_0 {r' : Ev} : okZ [] r' = [] := id rfl
@[simp] theorem okZ_cc {o' : Option Vl} {x : Dt} {r r' : Ev} : okZ (some (x, .c) :: r) (o' :: r') = true :: okZ r r' := id rfl
@[simp] theorem okZ_ct {o' : Option Vl} {x : Dt} {r r' : Ev} : okZ (some (x, .t) :: r) (o' :: r') = flS o' :: okZ r r' := id rfl
@[simp] theorem okZ_ca {o' : Option Vl} {x : Dt} {r r' : Ev} : okZ (some (x, .a) :: r) (o' :: r') = flS o' :: okZ r r' := id rfl
@[simp] theorem okZ_cn {o' : Option Vl} {r r' : Ev} : okZ (none :: r) (o' :: r') = flS o' :: okZ r r' := id rfl
@[simp] theorem allB_0 : ([] : List Bool).all id = true := id rfl
@[simp] theorem allB_c {b : Bool} {bs : List Bool} : (b :: bs).all id = (b && bs.all id) := id rfl
@[simp] theorem wS_fApp : wS (sFApp i c f e) r Qn Qr Qb Qc = wOb r[i]? (fun c' ns fs => match (ns.zip fs).lookup f with
    | some (.l xs) => wE e (r.set i (some (.o c' ns fs, .c))) fun y r2 => c' = c ∧ y.1.flat = true ∧ okX i r r2 = true ∧ i < (mixE r r2).length ∧ xs.length < LIM ∧ setK (mixE r r2) i (some (.o c' ns (putFD f (.l (xs ++ [y.1])) ns fs), .a)) Qn
    | _ => False) False := by
  unfold wS sFApp wOb setK wE
  generalize okX i r = ok
  generalize mixE r = mix
  generalize r[i]? = oi
  cases oi with
  | none => rfl
  | some oi =>
  cases oi with
  | none => rfl
  | some oi =>
  obtain ⟨y, md⟩ := oi
  cases y with
  | o c' ns fs =>
    cases md with
    | a =>
      simp only
      generalize (ns.zip fs).lookup f = l
      cases l with
      | none => rfl
      | some z =>
      cases z with
      | l xs =>
        simp only
        cases e (r.set i (some (.o c' ns fs, .c))) with
        | ok y r2 =>
          obtain ⟨y, m⟩ := y
          simp only
          by_cases hc : c' = c ∧ y.flat = true ∧ ok r2 = true ∧ i < (mix r2).length ∧ xs.length < LIM
          · rw [if_pos hc]; simp only [hc, true_and]
          · rw [if_neg hc]
            simp only [eq_iff_iff, false_iff]
            exact fun z => hc ⟨z.1, z.2.1, z.2.2.1, z.2.2.2.1, z.2.2.2.2.1⟩
        | ex _ _ _ => rfl
        | no => rfl
      | _ => rfl
    | _ => rfl
  | _ => rfl
@[simp] theorem wS_fPop : wS (sFPop i c f) r Qn Qr Qb Qc = wOb r[i]? (fun c' ns fs => match (ns.zip fs).lookup f with
    | some (.l xs) => c' = c ∧ xs ≠ [] ∧ setK r i (some (.o c' ns (putFD f (.l xs.dropLast) ns fs), .a)) Qn
    | _ => False) False := by
  unfold wS sFPop wOb setK
  generalize r[i]? = oi
  cases oi with
  | none => rfl
  | some oi =>
  cases oi with
  | none => rfl
  | some oi =>
  obtain ⟨y, md⟩ := oi
  cases y with
  | o c' ns fs =>
    cases md with
    | a =>
      simp only
      generalize (ns.zip fs).lookup f = l
      cases l with
      | none => rfl
      | some z =>
      cases z with
      | l xs =>
        simp only
        by_cases hc : c' = c ∧ xs ≠ []
        · rw [if_pos hc]; simp [hc]
        · rw [if_neg hc]
          simp only [eq_iff_iff, false_iff]
          exact fun z => hc ⟨z.1, z.2.1⟩
      | _ => rfl
    | _ => rfl
  | _ => rfl
end
end Y
namespace Y
open L2
end Y
namespace Y
open L2
section
variable {F : List Int} {p p' : Int → Nat} {m m' : Nat → Int} {d k : Nat} {w : Int} {R0 : List (List Int)} {D0 : List Int} {ps : List (Int × Int)}
def Apart (x y : Int × Nat × Nat) : Prop := x.1 ≠ y.1 ∧ (x.2.2 ≤ y.2.1 ∨ y.2.2 ≤ x.2.1)
theorem Apart.symm {x y : Int × Nat × Nat} (h : Apart x y) : Apart y x := ⟨fun e => h.1 e.symm, h.2.elim .inr .inl⟩
end
end Y
namespace Y
open PySem L2
end Y
namespace Y
open L2
section
variable {QL : List Dt → Prop} {Q : Dt → Md → Prop} {xs : List Dt} {k : Int}
@[simp] theorem wL_enumK : wL (sEnumK [.l xs, .i k]) QL = ((-(2 ^ 60) ≤ k ∧ k ≤ 2 ^ 60) ∧ QL (enumD k xs)) := by
  simp only [sEnumK]; exact wL_if
@[simp] theorem wL_enumKT : wL (sEnumK [.t xs, .i k]) QL = ((-(2 ^ 60) ≤ k ∧ k ≤ 2 ^ 60) ∧ QL (enumD k xs)) := by
  simp only [sEnumK]; exact wL_if
theorem listsD_lm (R : List (List Int)) : listsD (R.map lm) = some (R.map fun r => r.map Dt.i) := by
  induction R with
  | nil => rfl
  | cons r R ih => rw [List.map_cons, List.map_cons]; show (listsD (R.map lm)).map _ = _; rw [ih]; rfl
@[simp] theorem wO_sumL {R : List (List Int)} : wO (fSumL [.l (R.map lm), .l []]) Q = (R.flatten.length ≤ LIM ∧ Q (.l (R.flatten.map .i)) .c) := by
  have e : (R.map fun r => r.map Dt.i).flatten = R.flatten.map .i := List.map_flatten.symm
  have e2 : fSumL [.l (R.map lm), .l []] = if R.flatten.length ≤ LIM then some (.l (R.flatten.map .i), .c) else none := by
    simp only [fSumL, listsD_lm, e, List.length_map]
  rw [e2]
  exact wO_if
end
section
variable {r : Ev} {QE : Vl → Ev → Prop}
@[simp] theorem wE_ddisp1 {p : Key × Dt} : wE (mDDisp [p]) r QE = QE (dM [p], .a) r := id rfl
@[simp] theorem wE_words {a b : PySem.Str} : wE (mDDisp [(.inr (PySem.Str.ofString "low"), .s a), (.inr (PySem.Str.ofString "high"), .s b)]) r QE = QE (dM [(.inr (PySem.Str.ofString "low"), .s a), (.inr (PySem.Str.ofString "high"), .s b)], .a) r := id rfl
end
@[simp] theorem wO_srtB {bs : List Bool} {Q : Dt → Md → Prop} : wO (fSrtB [.l (bs.map .b)]) Q = Q (.l ((srtB bs).map .b)) .t := by simp [fSrtB, bls_map]
def wInK (n : Nat) : Dt → List Int → Dt → (Dt → Prop) → Prop
  | .l xs, [], y, Q => xs.length < LIM ∧ Q (.l (xs.take n ++ y :: xs.drop n))
  | .l xs, k :: ks, y, Q => wAj xs k fun j x => wInK n x ks y fun x' => Q (.l (xs.set j x'))
  | _, _, _, _ => False
@[simp] theorem wInK_n {n : Nat} {xs : List Dt} {y : Dt} {Q : Dt → Prop} : wInK n (.l xs) [] y Q = (xs.length < LIM ∧ Q (.l (xs.take n ++ y :: xs.drop n))) := id rfl
@[simp] theorem wInK_c {n : Nat} {xs : List Dt} {y : Dt} {k : Int} {ks : List Int} {Q : Dt → Prop} : wInK n (.l xs) (k :: ks) y Q = wAj xs k fun j x => wInK n x ks y fun x' => Q (.l (xs.set j x')) := id rfl
end Y
namespace Y
open L2 PySem
section
variable {r : Ev} {QE : Vl → Ev → Prop} {Q : Dt → Md → Prop} {ks vs : List Dt} {x y z : Dt} {m : Md} {i : Nat} {f : Ev → Ou Vl}
@[simp] theorem wO_kIx : wO (fKIx [.k ks vs, x]) Q = (kyT x = true ∧ ∃ y, lookN ks vs (keyN x) = some y ∧ Q y .c) := by
  simp only [fKIx]
  by_cases h : kyT x = true
  · rw [if_pos h]
    cases hl : lookN ks vs (keyN x) with
    | none => simp [wO]
    | some y => simp [wO, h]
  · rw [if_neg h]; simp [wO, h]
@[simp] theorem wO_kIn : wO (fKIn [x, .k ks vs]) Q = (kyT x = true ∧ Q (.b (lookN ks vs (keyN x)).isSome) .c) := by
  simp only [fKIn]
  by_cases h : kyT x = true
  · rw [if_pos h]; simp [wO, h]
  · rw [if_neg h]; simp [wO, h]
@[simp] theorem wO_kNin : wO (fKNin [x, .k ks vs]) Q = (kyT x = true ∧ Q (.b (!(lookN ks vs (keyN x)).isSome)) .c) := by
  simp only [fKNin]
  by_cases h : kyT x = true
  · rw [if_pos h]; simp [wO, h]
  · rw [if_neg h]; simp [wO, h]
@[simp] theorem wO_kGet : wO (fKGet [.k ks vs, x]) Q = (kyT x = true ∧ Q ((lookN ks vs (keyN x)).getD .n) .c) := by
  simp only [fKGet]
  by_cases h : kyT x = true
  · rw [if_pos h]; simp [wO, h]
  · rw [if_neg h]; simp [wO, h]
@[simp] theorem wO_kGet2 : wO (fKGet2 [.k ks vs, x, z]) Q = (kyT x = true ∧ Q ((lookN ks vs (keyN x)).getD z) .c) := by
  simp only [fKGet2]
  by_cases h : kyT x = true
  · rw [if_pos h]; simp [wO, h]
  · rw [if_neg h]; simp [wO, h]
@[simp] theorem wO_lenK : wO (fLenK [.k ks vs]) Q = (ks.length ≤ LIM ∧ Q (.i ks.length) .c) := by
  simp only [fLenK]
  by_cases h : ks.length ≤ LIM
  · rw [if_pos h]; simp [wO, h]
  · rw [if_neg h]; simp [wO, h]
@[simp] theorem wE_Mk {p : List Dt → Option Vl} {as : List Am} : wE (mMk p i as) r QE = (isKs i r = true ∧ wE (mP p (.v i :: as)) r QE) := by
  unfold wE mMk
  by_cases h : isKs i r = true
  · rw [if_pos h]; simp [h]
  · rw [if_neg h]; simp [h]
@[simp] theorem wE_knew : wE mKNew r QE = QE (.k [] [], .a) r := id rfl
@[simp] theorem wE_kd1 : wE (mKD1 f y) r QE = wE f r fun k r1 => kyT k.1 = true ∧ QE (.k [k.1] [y], .a) r1 := by
  unfold wE mKD1
  cases f r with
  | ok k r1 =>
    obtain ⟨k, mk⟩ := k
    simp only
    by_cases h : kyT k = true
    · rw [if_pos h]; simp [h]
    · rw [if_neg h]; simp [h]
  | ex _ _ _ => rfl
  | no => rfl
@[simp] theorem wK_tgK {Q : Ev → Prop} : wK (tgK i f (x, m) r) Q = (isK i r = true ∧ wE f r fun k r1 => match r1[i]? with
    | some (some (.k ks vs, .a)) => kyT k.1 = true ∧ x.flat = true ∧ ks.length < LIM ∧ setK r1 i (some (.k (putN ks vs k.1 x).1 (putN ks vs k.1 x).2, .a)) Q
    | _ => False) := by
  unfold wK tgK wE setK
  by_cases h : isK i r = true
  · rw [if_pos h]
    simp only [h, true_and]
    cases f r with
    | ok k r1 =>
      obtain ⟨k, mk⟩ := k
      simp only
      cases hr : r1[i]? with
      | none => rfl
      | some o =>
        cases o with
        | none => rfl
        | some z =>
          obtain ⟨z, mz⟩ := z
          cases z with
          | k ks vs =>
            cases mz with
            | a =>
              simp only
              by_cases hc : kyT k = true ∧ x.flat = true ∧ ks.length < LIM
              · rw [if_pos hc]
                simp only [eq_iff_iff]
                exact ⟨fun z => ⟨hc.1, hc.2.1, hc.2.2, z⟩, fun ⟨_, _, _, z⟩ => z⟩
              · rw [if_neg hc]
                simp only [false_iff, eq_iff_iff]
                rintro ⟨h1, h2, h3, _⟩
                exact hc ⟨h1, h2, h3⟩
            | c => rfl
            | t => rfl
          | _ => rfl
    | ex _ _ _ => rfl
    | no => rfl
  · rw [if_neg h]
    simp [h]
@[simp] theorem isK_0 : isK 0 (some (.k ks vs, .a) :: r) = true := id rfl
@[simp] theorem isK_s {o : Option Vl} {i : Nat} : isK (i + 1) (o :: r) = isK i r := id rfl
@[simp] theorem isKs_0 : isKs 0 (some (.k ks vs, m) :: r) = true := id rfl
@[simp] theorem isKs_s {o : Option Vl} {i : Nat} : isKs (i + 1) (o :: r) = isKs i r := id rfl
@[simp] theorem ownV_k {xs ys : List Dt} : ownV (.k xs ys) = (.k xs ys, .a) := id rfl
end
structure KeyF {α : Type} (f : α → Dt) : Prop where
  ok : ∀ a, kyT (f a) = true
  inj : ∀ a b, keyN (f a) = keyN (f b) → a = b
section
variable {α : Type} [DecidableEq α] {f : α → Dt}
def kget (acc : List (α × Dt)) (a : α) : Option Dt := (acc.find? fun p => decide (p.1 = a)).map (·.2)
def kput (acc : List (α × Dt)) (a : α) (y : Dt) : List (α × Dt) := if (kget acc a).isSome then acc.map (fun p => if p.1 = a then (p.1, y) else p) else acc ++ [(a, y)]
theorem KeyF.iff (F : KeyF f) {a b : α} : keyN (f a) = keyN (f b) ↔ a = b := ⟨F.inj a b, fun h => by rw [h]⟩
theorem KeyF.has (F : KeyF f) (a : α) : ∀ acc : List (α × Dt), hasN (acc.map fun p => f p.1) (f a) = (kget acc a).isSome
  | [] => rfl
  | p :: r => by
    have ih := F.has a r
    unfold hasN at ih ⊢
    rw [List.map_cons, List.any_cons, ih]
    by_cases h : p.1 = a
    · simp [kget, h]
    · have : ¬ keyN (f p.1) = keyN (f a) := fun z => h (F.inj _ _ z)
      simp [kget, h, this]
theorem KeyF.put (F : KeyF f) (a : α) (y : Dt) (acc : List (α × Dt)) : putN (acc.map fun p => f p.1) (acc.map (·.2)) (f a) y = ((kput acc a y).map (fun p => f p.1), (kput acc a y).map (·.2)) := by
  unfold putN kput
  rw [F.has]
  by_cases h : (kget acc a).isSome = true
  · rw [if_pos h, if_pos h]
    clear h
    induction acc with
    | nil => rfl
    | cons p r ih =>
      simp only [Prod.mk.injEq] at ih
      simp only [List.map_cons, List.zipWith_cons_cons, F.iff, Prod.mk.injEq]
      by_cases h : p.1 = a
      · simp only [h, if_true]
        exact ⟨by rw [← ih.1], by rw [← ih.2]⟩
      · simp only [if_neg h]
        exact ⟨by rw [← ih.1], by rw [← ih.2]⟩
  · rw [if_neg h, if_neg h]
    simp
end
end Y
namespace Y
section
variable {α : Type} [DecidableEq α] {nx : α → List α} {a : α}
inductive Pth (nx : α → List α) : Nat → α → α → Prop
  | z (a : α) : Pth nx 0 a a
  | s {n : Nat} {a b c : α} : Pth nx n a b → c ∈ nx b → Pth nx (n + 1) a c
def Dst (nx : α → List α) (n : Nat) (a b : α) : Prop := Pth nx n a b ∧ ∀ e, Pth nx e a b → n ≤ e
/-- behind k layers -/
structure BfI (nx : α → List α) (a : α) (k : Nat) (fd : List (α × Nat)) (ly : List α) : Prop where
  nd : (fd.map (·.1)).Nodup
  dst : ∀ c d, (c, d) ∈ fd → Dst nx d a c ∧ d ≤ k
  all : ∀ c d, d ≤ k → Dst nx d a c → (c, d) ∈ fd
  lay : ∀ c, c ∈ ly ↔ Dst nx k a c
  lnd : ly.Nodup
theorem BfI.mem {k : Nat} {fd : List (α × Nat)} {ly : List α} (I : BfI nx a k fd ly) {c : α} : c ∈ fd.map (·.1) ↔ ∃ d, d ≤ k ∧ Dst nx d a c := by
  constructor
  · intro h
    obtain ⟨⟨c', d⟩, h1, rfl⟩ := List.mem_map.mp h
    exact ⟨d, (I.dst _ _ h1).2, (I.dst _ _ h1).1⟩
  · rintro ⟨d, h1, h2⟩
    exact List.mem_map.mpr ⟨(c, d), I.all c d h1 h2, rfl⟩
end
end Y
namespace Y
open PySem L2
end Y
namespace Y
open PySem L2
section
variable {α β : Type} [DecidableEq α] [DecidableEq β] {g : α → β} {f : β → Dt}
structure MnI (g : α → β) (S : List (α × Nat)) (gd : List (β × Nat)) : Prop where
  nd : (gd.map (·.1)).Nodup
  mem : ∀ b e, (b, e) ∈ gd ↔ (∃ c, (c, e) ∈ S ∧ g c = b) ∧ ∀ c e', (c, e') ∈ S → g c = b → e ≤ e'
theorem MnI.nil : MnI g [] [] := ⟨by simp, fun b e => by simp⟩
end
end Y
namespace Y
open L2 PySem
section
variable {r : Ev} {QI : List Dt → Ev → Prop} {Qn : Ev → Prop} {Qr : Vl → Ev → Prop} {Qb Qc : Ev → Prop} {i j : Nat} {f : Ev → Ou Vl}
@[simp] theorem wS_setD : wS (sSetD i j f) r Qn Qr Qb Qc = (isK i r = true ∧ wE f r fun k r1 => match r1[i]?, r1[j]? with
    | some (some (.k ks vs, .a)), some (some (y, _)) => kyT k.1 = true ∧ y.flat = true ∧ ks.length < LIM ∧ setK r1 i (some (.k (setdN ks vs k.1 y).1 (setdN ks vs k.1 y).2, .a)) Qn
    | _, _ => False) := by
  unfold wS sSetD wE setK
  by_cases h : isK i r = true
  · rw [if_pos h]
    simp only [h, true_and, sWith]
    cases f r with
    | ok k r1 =>
      obtain ⟨k, mk⟩ := k
      simp only
      cases r1[i]? with
      | none => rfl
      | some o =>
        cases o with
        | none => rfl
        | some z =>
          obtain ⟨z, mz⟩ := z
          cases z with
          | k ks vs =>
            cases mz with
            | a =>
              cases r1[j]? with
              | none => rfl
              | some o =>
                cases o with
                | none => rfl
                | some y =>
                  obtain ⟨y, my⟩ := y
                  simp only
                  by_cases hc : kyT k = true ∧ y.flat = true ∧ ks.length < LIM
                  · rw [if_pos hc]
                    simp only [eq_iff_iff]
                    exact ⟨fun z => ⟨hc.1, hc.2.1, hc.2.2, z⟩, fun ⟨_, _, _, z⟩ => z⟩
                  · rw [if_neg hc]
                    simp only [false_iff, eq_iff_iff]
                    rintro ⟨h1, h2, h3, _⟩
                    exact hc ⟨h1, h2, h3⟩
            | c => rfl
            | t => rfl
          | _ => rfl
    | ex _ _ _ => rfl
    | no => rfl
  · rw [if_neg h]
    simp [h]
@[simp] theorem wI_keys : wI (sKeys i) r QI = (match r[i]? with
    | some (some (.k ks vs, .a)) => setK r i (some (.k ks vs, .c)) (QI ks)
    | _ => False) := by
  unfold wI sKeys setK
  cases r[i]? with
  | none => rfl
  | some o =>
    cases o with
    | none => rfl
    | some z =>
      obtain ⟨z, mz⟩ := z
      cases z with
      | k ks vs => cases mz <;> rfl
      | _ => rfl
@[simp] theorem wI_items : wI (sItems i) r QI = (match r[i]? with
    | some (some (.k ks vs, .a)) => setK r i (some (.k ks vs, .c)) (QI (kvD ks vs))
    | _ => False) := by
  unfold wI sItems setK
  cases r[i]? with
  | none => rfl
  | some o =>
    cases o with
    | none => rfl
    | some z =>
      obtain ⟨z, mz⟩ := z
      cases z with
      | k ks vs => cases mz <;> rfl
      | _ => rfl
@[simp] theorem wI_itemsE : wI (sItemsE f) r QI = wE f r fun y r1 => match y with
    | (.k ks vs, .a) => QI (kvD ks vs) r1
    | _ => False := by
  unfold wI sItemsE wE
  cases f r with
  | ok y r1 =>
    obtain ⟨y, m⟩ := y
    cases y with
    | k ks vs => cases m <;> rfl
    | _ => rfl
  | ex _ _ _ => rfl
  | no => rfl
@[simp] theorem wI_keysE : wI (sKeysE f) r QI = wE f r fun y r1 => match y with
    | (.k ks vs, .a) => QI ks r1
    | _ => False := by
  unfold wI sKeysE wE
  cases f r with
  | ok y r1 =>
    obtain ⟨y, m⟩ := y
    cases y with
    | k ks vs => cases m <;> rfl
    | _ => rfl
  | ex _ _ _ => rfl
  | no => rfl
end
section
variable {ks vs : List Dt} {Q : Dt → Md → Prop}
@[simp] theorem wO_listKN : wO (fListKN [.k ks vs]) Q = (ks.length ≤ LIM ∧ Q (.l ks) .t) := by
  simp only [fListKN]
  by_cases h : ks.length ≤ LIM
  · rw [if_pos h]; simp [wO, h]
  · rw [if_neg h]; simp [wO, h]
end
end Y
namespace Y
open PySem L2
theorem toP_rm (r : List Int) : toP (rm r) = .tuple (r.map .int) := by
  show toP (.t (r.map .i)) = _
  simp only [toP, toPL_ints]
theorem lt_rm (r s : List Int) : PySem.W.dataLt (toP (rm r)) (toP (rm s)) = decide (r < s) := by
  rw [toP_rm, toP_rm, PySem.W.dataLt_tuple]
  exact PySem.W.dataLt_ints r s
theorem alike_rm (r s : List Int) : PySem.W.alike (toP (rm r)) (toP (rm s)) = true := by
  rw [toP_rm, toP_rm]
  simp [PySem.W.alike, PySem.W.alike_ints]
end Y
namespace Y
open PySem L2 PyProof.Rows
end Y
namespace Y
open PySem L2 PyProof.Rows
/-- nothing but the script, kept, and empty tables -/
def OnlyT (H : Hp) : Prop := ∀ b, H b = none ∨ H b = some (.tbl #[]) ∨ ∃ o xs, H b = some (.frz o (.lst xs))
section
variable {K : PySem.W.Frag} {cl : Str → Addr}
theorem law_inT {fn : Fn} {ns : List Int} {a : Addr} {H : Hp} (h : ∃ m z, fn [(.z (ns.map .i), .c)] = .rt (.b true, m) z) (hO : OnlyT H) (tb : TabsK K H) (hS : SqL K H a (ns.map V.int)) : spY K cl false 1 fn [.ref a] H (fun v _ => v = .bl true) fun _ _ _ => False := by
  obtain ⟨m, z, h⟩ := h
  have hF : SqF K H a (ns.map V.int) := by
    rcases hS with hS | hS
    · rcases hS with hS | ⟨o, hS⟩
      · rcases hO a with q | q | ⟨o, xs, q⟩ <;> (rw [hS] at q; cases q)
      · exact .inl ⟨o, hS⟩
    · exact .inr hS
  have ci : ∀ ns : List Int, CoL K (fun _ => False) H (ns.map V.int) (ns.map .i) := by
    intro ns
    induction ns with
    | nil => exact .nil
    | cons n ns ih => exact .cons (.i n) ih
  refine ⟨rfl, cold [.z (ns.map .i)], fun _ => False, fun _ => [], ER.ofCold (fun _ z => z.elim) tb (.cons (.z hF (ci ns)) .nil), fun _ _ => rfl, ?_⟩
  show match fn [(.z (ns.map .i), .c)] with
    | .rt (x, m) z => _
    | .ex c fs z => _
    | .no => False
  rw [h]
  intro v H' M' G' F p
  obtain ⟨M2, _, _, c⟩ := p.giveUp (fun _ z => z.elim)
  exact c.bl
/-- what is wanted of each def's name: it is absent, or its table is known -/
def LamFact (p : Program) (K : PySem.W.Frag) (x : Str) : Prop := PySem.W.nsIn K mainGlobals x = some none ∨ ∃ d c P, (recsOf p).find? (fun e => e.name == x) = some d ∧ PySem.W.tabIn K x = some (c, P) ∧ K.lookup P = none
def tabsOf (K : PySem.W.Frag) : List (Addr × Addr) := lamNames.filterMap (PySem.W.tabIn K)
/-- the name of a table's def tells the table -/
theorem tabK_in {P : Addr} {q : Str} (t : TabK K P q) : ∃ x ∈ lamNames, ∃ c, PySem.W.tabIn K x = some (c, P) ∧ q = x ++ ".<locals>." ++ "<lambda>" := by
  obtain ⟨x, f, c, fo, co, fd, vs, hx, h1, h2, h3, h4, h5, h6, h7, h8⟩ := t
  refine ⟨x, hx, c, ?_, h8⟩
  unfold PySem.W.tabIn
  rw [h1]
  simp only
  obtain ⟨c1, d1, dt1, s1⟩ := fo
  simp only at h3
  subst h3
  rw [h2]
  simp only
  rw [h4]
  simp only
  obtain ⟨c2, d2, dt2, s2⟩ := co
  simp only at h6
  subst h6
  rw [h5]
  simp only
  rw [h7]
theorem tabs_of {H : Hp} (h : ∀ p ∈ tabsOf K, H p.2 = some (.tbl #[])) : TabsK K H := fun P q t => by
  obtain ⟨x, hx, c, h1, _⟩ := tabK_in t
  exact LamX.TabS.nil (h (c, P) (List.mem_filterMap.mpr ⟨x, hx, h1⟩))
end
/-- the head's own call, with empty tables -/
theorem head_callT {P : Program} {w : World} {K : PySem.W.Frag} {mg mb : Str → Option Value} {CX : CXT} {k : Nat} {fa a : Addr} {cs : List (Addr × Addr)} {fd : FuncData} {x : Str} {sp : Sp} {s₁ : Shared} {vs : List Value} {ns : List Int} (KX : K.In s₁.heap) (hns : s₁.heap.Ns mainGlobals mg) (hb : s₁.heap.Ns builtinsNs mb)
    (hbb : ∀ x : Str, x ≠ "__name__" → mb x = bootBuiltins x) (hlim : s₁.heap.NoLimit) (hg : s₁.gens = #[])
    (hT : ∀ p ∈ cs, PySem.W.CodeHd s₁.heap p.1 p.2 ∧ s₁.heap.get? p.2 = some (PySem.W.tabObj #[])) (nT : ∀ p ∈ cs, K.lookup p.2 = none) (hbm : ∃ (bm : Addr) (ob : Obj), mg "__builtins__" = some (.ref bm) ∧ bm ≠ builtinsNs ∧ s₁.heap.get? bm = some ob ∧ ob.cls = .type "module" ∧ ob.dict = some builtinsNs ∧ ob.data = .plain)
    (ha : s₁.heap.get? a = some { cls := .type "list", data := .seq vs.toArray }) (hi : IntsAre vs ns) (hl : ns.length ≤ sizeLine) (hr : Room k callerA)
    (F : ∀ base : Heap, K.In base → base.Ns mainGlobals mg → (∀ p ∈ cs, LamX.TabB base mg p.1 p.2) → FnOk P w K mg base CX k fa fd [x] sp) (hbind : ∀ (s : Shared) (u : Value), BindsTo s fd ⟨[u], []⟩ [(x, u)])
    (hsp : ∀ H : Hp, OnlyT H → (∀ p ∈ cs, H p.2 = some (.tbl #[])) → SqL K H a (ns.map V.int) → sp [.ref a] H (fun v _ => v = .bl true) fun _ _ _ => False) (hCX : ∀ H e s', CX [] H s₁ (fun _ _ _ => False) e s' → False) :
    codeAny (model P w) callerA (.call (.ref fa) ⟨[.ref a], []⟩) (fun r s' => r = .ok (.ret (.bool true)) ∧ OldK s₁.heap s'.heap ∧ s'.os = s₁.os ∧ AllBare s'.gens) s₁ := by
  have rv := vals_ints hi
  have lenV := hi.length
  have tab : ∀ {b : Addr}, (∃ p ∈ cs, p.2 = b) → s₁.heap.get? b = some (PySem.W.tabObj #[]) := fun {b} ⟨p, hp, e⟩ => by rw [← e]; exact (hT p hp).2
  have aN : ¬ ∃ p ∈ cs, p.2 = a := fun z => by
    have q := tab z
    rw [ha] at q
    have q := congrArg Obj.data (Option.some.inj q)
    cases q
  have core : ∀ H : Hp, (∀ p ∈ cs, H p.2 = some (.tbl #[])) → (∀ b, H b = none ∨ (b = a ∧ ∃ o xs, H b = some (.frz o (.lst xs))) ∨ ((∃ p ∈ cs, p.2 = b) ∧ H b = some (.tbl #[]))) → SqL K H a (ns.map V.int) → HOk P w H s₁.heap → (H a ≠ none → K.lookup a = none) →
      codeAny (model P w) callerA (.call (.ref fa) ⟨[.ref a], []⟩) (fun r s' => r = .ok (.ret (.bool true)) ∧ OldK s₁.heap s'.heap ∧ s'.os = s₁.os ∧ AllBare s'.gens) s₁ := by
    intro H hH hA hS hok hK
    have hO : OnlyT H := fun b => by
      rcases hA b with z | ⟨_, z⟩ | ⟨_, z⟩
      · exact .inl z
      · exact .inr (.inr z)
      · exact .inr (.inl z)
    -- what is told of b in the heap stays told in the hidden one, where b is neither a list nor a table
    have other : ∀ {b : Addr} {o : Obj}, s₁.heap.get? b = some o → (∀ xs n, o.data ≠ .seq xs n) → o.data ≠ .fields #[] → H b = none := fun {b o} e h1 h2 => by
      rcases hA b with z | ⟨rfl, _⟩ | ⟨z, _⟩
      · exact z
      · rw [ha] at e; cases e; exact (h1 _ _ rfl).elim
      · rw [tab z] at e; cases e; exact (h2 rfl).elim
    have nsK : ∀ {b : Addr} {m : Str → Option Value}, s₁.heap.Ns b m → (hidT s₁.heap H).Ns b m := by
      rintro b m ⟨o, es, ep, h1, h2, h3⟩
      refine ⟨o, es, ep, hidT_get h1 (other h1 ?_ ?_), h2, h3⟩
      · intro xs n z; rw [h2] at z; cases z
      · intro z; rw [h2] at z; cases z
    have hKb : K.In (hidT s₁.heap H) := by
      intro b o h1
      refine hidT_get (KX b o h1) ?_
      rcases hA b with z | ⟨rfl, o2, xs, z⟩ | ⟨⟨p, hp, rfl⟩, _⟩
      · exact z
      · rw [hK (by rw [z]; simp)] at h1; cases h1
      · rw [nT p hp] at h1; cases h1
    have hM : Mod K mg (hidT s₁.heap H) := ⟨hKb, nsK hns, ⟨mb, nsK hb, hbb⟩, hlim.elim fun mc z => ⟨mc, nsK z.1, z.2⟩⟩
    have hTB : ∀ p ∈ cs, LamX.TabB (hidT s₁.heap H) mg p.1 p.2 := fun p hp => by
      obtain ⟨o, us, file, tf, flags, tg, inF, text, tt, e1, e2, e3, e4, rest⟩ := (hT p hp).1
      refine ⟨⟨o, us, file, tf, flags, tg, inF, text, tt, hidT_get e1 (other e1 ?_ ?_), e2, e3, e4, rest⟩, ?_, ?_⟩
      · intro xs n z; rw [e3] at z; cases z
      · intro z; rw [e3] at z; cases z; simp at e4
      · obtain ⟨bm, ob, b1, b2, b3, b4, b5, b6⟩ := hbm
        refine ⟨bm, ob, b1, b2, ?_, ?_, hidT_get b3 (other b3 ?_ ?_), b4, b5, b6⟩
        · rintro rfl
          obtain ⟨o2, es, ep, h1, h2, _⟩ := hns
          rw [b3] at h1; cases h1
          rw [b6] at h2; cases h2
        · rintro rfl
          rw [(hT p hp).2] at b3; cases b3; cases b6
        · intro xs n z; rw [b6] at z; cases z
        · intro z; rw [b6] at z; cases z
      · intro z
        obtain ⟨o2, es, ep, h1, h2, _⟩ := hns
        rw [z, (hT p hp).2] at h1; cases h1; cases h2
    have ev : Env0 P w K mg (hidT s₁.heap H) callerA [] s₁ H := ⟨rfl, hM, fun b o q => of_hidT q, Nat.le_of_eq (hidT_size _ _), trivial, fun b z => (nomatch (show b ∈ ([] : List Addr) from z)), hok, .of_eq hg⟩
    refine codeAny_mono ((F _ hKb (nsK hns) hTB).run callerA [] s₁ H ⟨[.ref a], []⟩ [.ref a] [.ref a] _ _ hr ev (hbind s₁ (.ref a)) (.cons rfl .nil) (hsp H hO hH hS)) fun r s' h => ?_
    match r, h with
    | .error v, h => exact (hCX H v s' h).elim
    | .ok .next, h => exact (h : False).elim
    | .ok .brk, h => exact (h : False).elim
    | .ok .cont, h => exact (h : False).elim
    | .ok (.ret u), ⟨v, H', os, bare, un, hok', r', q⟩ =>
      obtain rfl : v = V.bl true := q
      obtain rfl : u = Value.bool true := r'
      have stays : ∀ b o, (¬ ∃ p ∈ cs, p.2 = b) → s₁.heap.get? b = some o → s'.heap.get? b = some o := fun b o nb h1 => by
        rcases hA b with z | ⟨_, ob, xs, z⟩ | ⟨z, _⟩
        · exact un.keep b o h1 z (fun z => nomatch (show b ∈ ([] : List Addr) from z)) (by simp)
        · obtain ⟨e1, _⟩ := hok b _ z
          obtain ⟨e2, _⟩ := hok' b _ (un.frzs b ob _ z)
          rw [h1] at e1; cases e1
          exact e2
        · exact (nb z).elim
      have grows : ∀ p ∈ cs, ∃ more : Array Value, s'.heap.get? p.2 = some (PySem.W.tabObj more) := fun p hp => by
        obtain ⟨more, z⟩ := un.tbls p.2 #[] (hH p hp)
        exact ⟨_, hok' p.2 _ z⟩
      refine ⟨rfl, ⟨fun b o h1 => ?_, fun b o h1 => ?_⟩, os, bare⟩
      · by_cases hbt : ∃ p ∈ cs, p.2 = b
        · obtain ⟨p, hp, rfl⟩ := hbt
          obtain ⟨more, hm⟩ := grows p hp
          rw [(hT p hp).2] at h1
          cases h1
          exact .inr (.inl ⟨((hT p hp).1.tab (hT p hp).2).isCodeTable, rfl, #[], more, rfl, by rw [Array.empty_append]; exact hm⟩)
        · exact .inl (stays b o hbt h1)
      · by_cases hbt : ∃ p ∈ cs, p.2 = b
        · obtain ⟨p, hp, rfl⟩ := hbt
          obtain ⟨more, hm⟩ := grows p hp
          exact ⟨_, hm⟩
        · exact ⟨o, stays b o hbt h1⟩
  classical
  rcases hk : K.lookup a with _ | o
  · refine core (fun b => if b = a then some (.frz { cls := .type "list", data := .seq vs.toArray } (.lst (ns.map V.int))) else if ∃ p ∈ cs, p.2 = b then some (.tbl #[]) else none) (fun p hp => ?_) (fun b => ?_) (.inl (.inr ⟨{ cls := .type "list", data := .seq vs.toArray }, if_pos rfl⟩)) (fun b u z => ?_) fun _ => hk
    · show (if p.2 = a then _ else _) = _
      rw [if_neg fun z => aN ⟨p, hp, z⟩, if_pos ⟨p, hp, rfl⟩]
    · by_cases hba : b = a
      · exact .inr (.inl ⟨hba, _, _, if_pos hba⟩)
      · by_cases hbt : ∃ p ∈ cs, p.2 = b
        · exact .inr (.inr ⟨hbt, by show (if b = a then _ else _) = _; rw [if_neg hba, if_pos hbt]⟩)
        · exact .inl (by show (if b = a then _ else _) = _; rw [if_neg hba, if_neg hbt])
    · by_cases hba : b = a
      · cases (if_pos hba).symm.trans z
        subst hba
        exact ⟨ha, by rw [List.length_map]; exact hl, vs, _, rv, ha⟩
      · have z := (if_neg hba).symm.trans z
        by_cases hbt : ∃ p ∈ cs, p.2 = b
        · cases (if_pos hbt).symm.trans z
          exact tab hbt
        · cases (if_neg hbt).symm.trans z
  · have q := KX a o hk
    rw [ha] at q
    cases q
    refine core (fun b => if ∃ p ∈ cs, p.2 = b then some (.tbl #[]) else none) (fun p hp => if_pos ⟨p, hp, rfl⟩) (fun b => ?_) (.inr ⟨_, vs.toArray, _, hk, rfl, rfl, rfl, by rw [List.size_toArray, lenV]; exact hl, by simpa using rv⟩) (fun b u z => ?_) fun z => absurd (if_neg aN) z
    · by_cases hbt : ∃ p ∈ cs, p.2 = b
      · exact .inr (.inr ⟨hbt, if_pos hbt⟩)
      · exact .inl (if_neg hbt)
    · by_cases hbt : ∃ p ∈ cs, p.2 = b
      · cases (if_pos hbt).symm.trans z
        exact tab hbt
      · cases (if_neg hbt).symm.trans z
theorem walk_ofT {l : PySem.W.OpenLaw} {n k : Nat} {q : Program} {loose : List Str} {XP : (Str → Option Value) → Heap → Prop} {YP : World → Heap → Prop} {d : DefRec} {K : Params → PySem.W.Frag} {CX : World → CXT} {sp : World → Sp} {x : Str} (hn : l.most = some n) (hn2 : n ≤ sizeLine) (hdf : d.params.defaults = []) (hr : L2.Room k callerA)
    (hY : ∀ (w : World) (h : Heap), YP w h → (K w.params).In h) (F : ∀ (w : World) (mg : Str → Option Value) (fa : Addr) (h : Heap), (K w.params).In h → h.Ns mainGlobals mg → mg d.name = some (.ref fa) → ∃ fd : FuncData, (∀ (s : Shared) (u : Value), BindsTo s fd ⟨[u], []⟩ [(x, u)]) ∧ (∀ y ∈ lamNames, LamFact q (K w.params) y) ∧
      ∀ base : Heap, (K w.params).In base → base.Ns mainGlobals mg → (∀ p ∈ tabsOf (K w.params), LamX.TabB base mg p.1 p.2) → FnOk l.prog w (K w.params) mg base (CX w) k fa fd [x] (sp w))
    (hsp : ∀ (w : World) (H : Hp) (a : Addr) (ns : List Int), ns.length ≤ n → (∀ z ∈ ns, Builtin.Int.intBits z ≤ 1048576) → OnlyT H → TabsK (K w.params) H → SqL (K w.params) H a (ns.map V.int) → sp w [.ref a] H (fun v _ => v = .bl true) fun _ _ _ => False) (hCX : ∀ (w : World) (H : Hp) (s : Shared) (e : Value) (s' : Shared), CX w [] H s (fun _ _ _ => False) e s' → False) :
    PySem.W.WalkO q loose XP YP l.row.toRowW d [] (fun f vs => PySem.call f vs) :=
  Att.attach_callB hn hdf fun w s₀ s₁ mg mb fa o pm cd doc a vs ns G yy ho hd hcd hmg hobj hints hlen hbits hg => by
    obtain ⟨fd, hb, hL, hF⟩ := F w mg fa _ (hY w _ yy) G.T.g hmg
    have hc : ∀ p ∈ tabsOf (K w.params), (PySem.W.CodeHd s₁.heap p.1 p.2 ∧ s₁.heap.get? p.2 = some (PySem.W.tabObj #[])) ∧ (K w.params).lookup p.2 = none := fun p hp => by
      obtain ⟨y, hy, e⟩ := List.mem_filterMap.mp hp
      rcases hL y hy with z | ⟨d', c, P, h1, h2, h3⟩
      · unfold PySem.W.tabIn at e
        rw [z] at e
        cases e
      · rw [h2] at e
        cases e
        exact ⟨PySem.W.tab_of G.T (hY w _ yy) h1 h2, h3⟩
    exact head_callT (hY w _ yy) G.T.g G.T.b G.T.builtins G.T.nolimit hg (fun p hp => (hc p hp).1) (fun p hp => (hc p hp).2) G.T.bmain hobj hints (Nat.le_trans hlen hn2) ⟨hr, rfl⟩ hF hb (fun H hO hH hS => hsp w H a ns hlen hbits hO (tabs_of hH) hS) fun H e s' => hCX w H s₁ e s'
end Y
namespace Y
open PySem L2 PyProof.Rows
/-- one parameter, no other name of its own: captured ones and globals -/
structure LamS1 (sc scope : Scope) (a : Str) : Prop where
  kind : scope.kind = .function
  co : scope.isCoroutine = false
  gen : scope.isGenerator = false
  own : ∀ y ∈ scope.names, y.2 ≠ .cell ∧ (y.2 = .local → y.1 = a)
  par : scope.names.lookup a = some .local
  free : ∀ y ∈ scope.names, y.2 = .free → sc.names.lookup y.1 = some .cell ∨ sc.names.lookup y.1 = some .free
def lamS1B (sc scope : Scope) (a : Str) : Bool :=
  decide (scope.kind = .function) && !scope.isCoroutine && !scope.isGenerator && decide (scope.names.lookup a = some .local) && scope.names.all fun y => !decide (y.2 = .cell) && (!decide (y.2 = .local) || decide (y.1 = a)) && (!decide (y.2 = .free) || decide (sc.names.lookup y.1 = some .cell) || decide (sc.names.lookup y.1 = some .free))
theorem lamS1_by {sc scope : Scope} {a : Str} (h : lamS1B sc scope a = true) : LamS1 sc scope a := by
  unfold lamS1B at h
  simp only [Bool.and_eq_true, Bool.or_eq_true, Bool.not_eq_true', decide_eq_true_eq, decide_eq_false_iff_not, List.all_eq_true] at h
  obtain ⟨⟨⟨⟨h1, h2⟩, h3⟩, h5⟩, h4⟩ := h
  refine ⟨h1, h2, h3, fun y hy => ⟨(h4 y hy).1.1, fun e => ?_⟩, h5, fun y hy e => ?_⟩
  · rcases (h4 y hy).1.2 with z | z
    · exact absurd e z
    · exact z
  · rcases (h4 y hy).2 with (z | z) | z
    · exact absurd e z
    · exact .inl z
    · exact .inr z
theorem LamS1.has {X : Cx} {scope : Scope} {a : Str} (L : LamS1 X.env.scope scope a) (ok : X.Ok) : ∀ y ∈ scope.names, y.2 = .free → ∃ c, X.env.cells.lookup y.1 = some c := fun y hy e => by
  rcases L.free y hy e with k | k
  · exact ok.has _ (.inl k)
  · exact ok.has _ (.inr k)
/-- the context of the body: one name more -/
def lamCx1 (X : Cx) (a : Str) (A : Around) (outer : List Env) (s : Shared) (H : Hp) (E : XK) (scope : Scope) (f c' : Addr) : Cx := { LamX.lamCx X A outer s H E scope f c' with N := X.N ++ [a] }
section
variable {X : Cx} {pins : List (Addr × Obj)} {σ : L2.St} {H HZ : Hp} {s s1 : Shared} {a : Str}
theorem lam_start1 {A : Around} {outer : List Env} {E : XK} {scope : Scope} {f c' : Addr} {h₁ : Heap} {tk : Nat} {v : V} {u : Value} (I : L2.Inv X pins σ H s) (L : LamS1 X.env.scope scope a) (na : a ∉ X.N) (e0 : Env0 X.prog X.w X.K X.mg X.base A outer s1 HZ) (hd : A.handled = none)
    (un : Un (frs X.stack) [] H HZ s.heap s1.heap) (rv : RelV v u) (hns : h₁.Ns s1.heap.objs.size fun y => ([(a, u)] : List (Str × Value)).reverse.lookup y) (kp : ∀ b o, s1.heap.get? b = some o → h₁.get? b = some o) :
    L2.Inv (lamCx1 X a A outer s1 HZ E scope f c') [] (σ ++ [some v]) HZ { s1 with heap := h₁, toks := tk } := by
  have hfree := L.has I.ok
  have cm : ∀ {y c}, (cloFrom X.env.cells scope.names []).lookup y = some c → X.env.cells.lookup y = some c := fun {y c} e => by
    rcases cloFrom_mem (PySem.mem_of_lookup e) with hm | ⟨h1, h2⟩
    · cases hm
    · obtain ⟨c1, hc⟩ := hfree _ h1 rfl
      have hc : X.env.cells.lookup y = some c1 := hc
      have e2 : c = c1 := by rw [h2, hc] <;> rfl
      rw [e2]; exact hc
  have look : ∀ {y}, scope.names.lookup y = some .free → ∃ c, (cloFrom X.env.cells scope.names []).lookup y = some c := fun {y} hl => mem_lookup (cloFrom_has (cells := X.env.cells) (acc := []) (PySem.mem_of_lookup hl))
  have cellK : ∀ {c : Addr} {v : Option Value}, H c = none → s.heap.IsCell c v → h₁.IsCell c v := fun {c v} n ⟨o, ho, hd⟩ => by
    obtain ⟨sl, q⟩ := un.any ho n (by simp)
    exact ⟨_, kp _ _ q, hd⟩
  have noA : ∀ b : Addr, b ∉ (lamCx1 X a A outer s1 HZ E scope f c').ex := fun b z => nomatch (show b ∈ ([] : List Addr) from z)
  have noC : ∀ {y}, scope.names.lookup y ≠ some .cell := fun {y} k => (L.own _ (PySem.mem_of_lookup k)).1 rfl
  have fr0 : s1.heap.objs.size = (lamCx1 X a A outer s1 HZ E scope f c').env.locals := rfl
  refine ⟨⟨e0.mod, L.kind, rfl, rfl, Nat.le_refl _, fun y z c e1 e2 => I.ok.inj y z c (cm e1) (cm e2), fun y hy => ?_, fun y c z _ => ?_, fun _ => hd, Around.frames_deeper e0.frames, .inr ⟨rfl, rfl⟩, fun b z => absurd z (noA b), e0.bs, e0.bsz, fun b _ _ => noA b, fun b z => absurd z (noA b), e0.funs, e0.frf⟩,
    rfl, e0.bare, Un.kept kp, ⟨_, hns, fun i y v2 e1 e2 e3 => ?_⟩, fun y c e => ?_, e0.hok.fresh (Nat.le_refl _), fun y c e => ?_, fun q hq => (nomatch (show q ∈ ([] : List (Addr × Obj)) ++ [] from hq)), e0.hok.kept kp, ?_⟩
  · have hy : scope.names.lookup y = some .cell ∨ scope.names.lookup y = some .free := hy
    rcases hy with hy | hy
    · exact absurd hy noC
    · exact look hy
  · have z : false = true := z
    cases z
  · have e1 : (X.N ++ [a])[i]? = some y := e1
    by_cases hi : i < X.N.length
    · rw [List.getElem?_append_left hi] at e1
      rw [List.getElem?_append_left (by rw [I.len]; exact hi)] at e2
      have e3 : Vis scope y := e3
      rcases e3 with k | k | k
      · have ya := (L.own _ (PySem.mem_of_lookup k)).2 rfl
        have ya : y = a := ya
        exact absurd (by rw [← ya]; exact List.mem_of_getElem? e1) na
      · exact absurd k noC
      · obtain ⟨m, hn, hl⟩ := I.loc
        have hvis : Vis X.env.scope y := (L.free _ (PySem.mem_of_lookup k) rfl).elim (fun k => .inr (.inl k)) (fun k => .inr (.inr k))
        obtain ⟨w', r, q⟩ := hl i y v2 e1 e2 hvis
        obtain ⟨c2, h2⟩ := look k
        refine ⟨w', r, .inr ⟨.inr k, c2, h2, ?_⟩⟩
        have c1 := cm h2
        rcases q with ⟨k', _⟩ | ⟨_, c3, e', z⟩
        · have k' : X.env.scope.names.lookup y = some .local := k'
          rcases L.free _ (PySem.mem_of_lookup k) rfl with k2 | k2 <;> rw [show X.env.scope.names.lookup y = _ from k2] at k' <;> cases k'
        · rw [c1] at e'
          cases e'
          exact cellK (I.freeC y _ c1) z
    · have hi2 : i = X.N.length := by
        have := (List.getElem?_eq_some_iff.mp e1).1
        simp at this
        omega
      subst hi2
      rw [List.getElem?_append_right (Nat.le_refl _), Nat.sub_self] at e1
      rw [List.getElem?_append_right (by rw [I.len]; exact Nat.le_refl _), I.len, Nat.sub_self] at e2
      cases e1
      cases e2
      exact ⟨u, rv, .inl ⟨L.par, by simp⟩⟩
  · obtain ⟨w', z⟩ := I.cell y c (cm e)
    exact ⟨w', cellK (I.freeC y c (cm e)) z⟩
  · obtain ⟨v, o, ho, hd⟩ := I.cell y c (cm e)
    exact un.free c o ho (I.freeC y c (cm e)) (by simp)
  · show (σ ++ [some v]).length = (X.N ++ [a]).length
    rw [List.length_append, List.length_append, I.len]; rfl
/-- nm(e), in the def that got the nameless one: Z is that def's context, entered at s -/
theorem pe_act1 {CXg : CXT} {Eg : XK} {Ng : List Str} {qg : Str} {sg : Scope} {g f c' : Addr} {cdg pm ctv : Value} {params : Arguments} {body : Expr} {scope : Scope} {k i : Nat} {nm : Str} {pn : List (Addr × Obj)} {xe : Value → Shared → Prop} {W : WX} {E : XK} {tb : TE} {p1 p2 : Pos} {e : Expr} {t : TA}
    (I : L2.Inv X pins σ H s) (L : LamS1 X.env.scope scope a) (na : a ∉ X.N) (hf : s.heap.get? f = some (PySem.W.kla_obj "<lambda>" (X.env.qual ++ "<lambda>") params body scope (cloFrom X.env.cells scope.names []) pm c' ctv)) (hfn : H f = none) (hfr : f ∉ frs X.stack)
    (hbind : ∀ u : Value, bindArgs (PySem.W.kla_fn "<lambda>" (X.env.qual ++ "<lambda>") params body scope (cloFrom X.env.cells scope.names []) pm (.ref c') ctv) ⟨[u], []⟩ = pure [(a, u)])
    (tk : Takes ((cxOf CXg X.prog X.w X.K X.mg X.base Ng qg sg g cdg X.A X.stack s H Eg).tr pn xe) W) (hW : ∀ cls d σ' H', E cls d H' → W cls d σ' H') (hr : Room (k + 1) (X.A.deeper (envOfC qg sg s.heap.objs.size g cdg)))
    (hbody : ∀ (A : Around) (outer : List Env) (s : Shared) (H : Hp), Room k (A.deeper (LamX.lamEnv X scope s.heap.objs.size f c')) → PE (lamCx1 X a A outer s H E scope f c') body tb)
    (hN : Ng[i]? = some nm) (hv : Vis sg nm) (ha : PA ((cxOf CXg X.prog X.w X.K X.mg X.base Ng qg sg g cdg X.A X.stack s H Eg).tr pn xe) [e] t) (hd : (nm == ("__debug__" : Str)) = false := by decide) (hcd : (nm == ("__classdict__" : Str)) = false := by decide)
    (he : starEach [e] (envOfC qg sg s.heap.objs.size g cdg) = [(false, eval e (envOfC qg sg s.heap.objs.size g cdg))] := by rfl) :
    PE ((cxOf CXg X.prog X.w X.K X.mg X.base Ng qg sg g cdg X.A X.stack s H Eg).tr pn xe) (.Call (.Name nm p1) [e] [] p2)
      (fun σZ HZ Q => σZ[i]? = some (some (.ref f)) ∧ t σZ HZ fun vs H1 => ∃ v, vs = [v] ∧ H1 c' = some (LamX.CodeO c' (X.env.qual ++ "<lambda>")) ∧ tb (σ ++ [some v]) H1 Q) := by
  refine ⟨fun pinsZ sZ σZ HZ Q IZ h => ?_⟩
  obtain ⟨hs, ht⟩ := h
  refine wpAny_Call_Name_kw (thn ((pe_var (pos := p1) (i := i) hN hv hd hcd).run pinsZ sZ σZ HZ (fun v H1 => v = .ref f ∧ H1 = HZ) IZ ⟨.ref f, hs, rfl, rfl⟩) fun u s1 ⟨v, H1, I1, r1, q1⟩ => ?_)
  obtain ⟨ev, eH⟩ := q1
  subst ev
  rw [eH] at I1
  obtain rfl : u = Value.ref f := r1
  have of_ : ∀ {s2 : Shared} {H2 : Hp}, L2.Inv ((cxOf CXg X.prog X.w X.K X.mg X.base Ng qg sg g cdg X.A X.stack s H Eg).tr pn xe) pinsZ σZ H2 s2 → s2.heap.get? f = some (PySem.W.kla_obj "<lambda>" (X.env.qual ++ "<lambda>") params body scope (cloFrom X.env.cells scope.names []) pm c' ctv) :=
    fun I2 => I2.base.keep f _ hf hfn hfr (fun z => nomatch (show f ∈ ([] : List Addr) from z))
  refine PySem.W.callWith_F ⟨_, _, _, _, of_ I1⟩ (thn (ha.run p2 pinsZ s1 σZ HZ _ I1 ht) fun us s2 ⟨vs, H2, I2, r2, q2⟩ => ⟨⟨_, _, _, _, of_ I2⟩, ?_⟩) he (by rfl)
  obtain ⟨v, rfl, hc, htb⟩ := q2
  obtain ⟨u, rfl, rv⟩ : ∃ u, us = [u] ∧ RelV v u := by
    cases r2 with
    | cons r rs => cases rs; exact ⟨_, rfl, r⟩
  have un : Un (frs X.stack) [] H H2 s.heap s2.heap := I2.base
  obtain ⟨⟨oc, vs, t, hoc, hdc, hvc⟩, _, _⟩ := I2.hok c' _ hc
  have rc : codeAny (model X.prog X.w) (X.A.deeper (envOfC qg sg s.heap.objs.size g cdg)) (.call (.ref f) ⟨[u], []⟩) (CR (L2.CX X.prog X.w) (envOfC qg sg s.heap.objs.size g cdg :: X.stack) X.prog X.w H2 s2 Q E) s2 := by
    refine PySem.W.kla_callFunE hr.depth (of_ I2) rfl L.co L.gen rfl ⟨c', oc, vs, t, rfl, hoc, hdc, hvc⟩ ?_
    rw [hbind]
    refine wpAny_pure (wpAny_newFunctionEnv (fun y hy => (L.own y hy).1) (fun y hy => ?_) (fun h₁ hns hsb => ⟨I2.nolimit.fresh _ hsb, ?_⟩) L.kind)
    · rw [List.mem_singleton.mp hy]; exact L.par
    show codeAny _ _ (.expr body (LamX.lamEnv X scope s2.heap.objs.size f c')) _ _
    have kp : ∀ b o, s2.heap.get? b = some o → h₁.get? b = some o := fun b o e => hsb.extBut b o (Nat.ne_of_lt (Heap.lt_size e)) (Heap.get?_push_of_some _ e)
    have J : L2.Inv (lamCx1 X a (X.A.deeper (envOfC qg sg s.heap.objs.size g cdg)) (envOfC qg sg s.heap.objs.size g cdg :: X.stack) s2 H2 E scope f c') [] (σ ++ [some v]) H2 { s2 with heap := h₁, toks := s2.toks + ([(a, u)] : List (Str × Value)).length } :=
      lam_start1 I L na I2.env0 hr.hd un rv hns kp
    refine PySem.W.kla_codeExpr (wpAny_mono ((hbody _ _ s2 H2 (hr.deeper _)).run [] _ _ H2 Q J htb) (fun v s' hq => ?_) fun e s' hq => hq)
    obtain ⟨w', H', J', rv, q⟩ := hq
    exact ⟨w', H', J'.os, J'.bare, J'.base, J'.hok, rv, q⟩
  have hx : Passes (L2.CX X.prog X.w) ((cxOf CXg X.prog X.w X.K X.mg X.base Ng qg sg g cdg X.A X.stack s H Eg).tr pn xe) E := passes_call tk hW
  refine wpAny_call (codeAny_mono rc fun r s' hq => ?_)
  cases r with
  | error e => exact hx pinsZ σZ H2 s2 e s' I2 hq
  | ok fl =>
    cases fl with
    | ret u => exact I2.after hq
    | next => exact False.elim hq
    | brk => exact False.elim hq
    | cont => exact False.elim hq
end
end Y
namespace Y
open PySem L2 PyProof.Rows
abbrev s_low : Str := "low"
abbrev s_high : Str := "high"
abbrev s_fits : Str := "fits"
abbrev s_middle : Str := "middle"
/-- what the search tells, act: the reading of fits(m) -/
def fitT (act : Int → Hp → (Bool → Hp → Prop) → Prop) : Nat → Int → Int → Hp → (Int → Hp → Prop) → Prop
  | 0, lo, hi, H, Q => ¬ 1 < hi - lo ∧ Q lo H
  | n + 1, lo, hi, H, Q => if 1 < hi - lo then act ((lo + hi) / 2) H fun b H1 => if b = true then fitT act n ((lo + hi) / 2) hi H1 Q else fitT act n lo ((lo + hi) / 2) H1 Q else Q lo H
section
variable {X : Cx} {f : Addr}
theorem pss_fit {p1 p2 p3 p4 p5 p6 p7 p8 p9 p10 p11 p12 p13 p14 p15 p16 p17 p18 p19 p20 p21 p22 p23 p24 p25 : Pos} {j1 j2 : Nat} (hp : PassesOwn (model X.prog X.w) X.A X.env X.xe) (hN : X.N = [s_low, s_high, s_fits, s_middle])
    (h0 : X.env.scope.names.lookup s_low = some .local) (h1 : X.env.scope.names.lookup s_high = some .local) (h3 : X.env.scope.names.lookup s_middle = some .local)
    {act : Int → Hp → (Bool → Hp → Prop) → Prop} (hact : PE X (.Call (.Name s_fits p1) [.Name s_middle p2] [] p3) fun σ H Q => σ[2]? = some (some (.ref f)) ∧ ∃ m : Int, σ[3]? = some (some (.int m)) ∧ act m H fun b H1 => Q (.bl b) H1)
    (hm : ∀ m H Q Q', (∀ b H1, Q b H1 → Q' b H1) → act m H Q → act m H Q') (D : Ends) (n : Nat) (lo hi : Int) (H : Hp) (o : Option V) (hD : fitT act n lo hi H fun r H' => D.rt (.int r) H') :
    ∃ t, PSs X [.While (.Compare (.BinOp (.Name s_high p4) .Sub (.Name s_low p5) p6) [.Gt] [.Constant (.int 1) j1 p7] p8) [.Assign [.Name s_middle p9] (.BinOp (.BinOp (.Name s_low p10) .Add (.Name s_high p11) p12) .FloorDiv (.Constant (.int 2) j2 p13) p14) p15,
      .If (.Call (.Name s_fits p1) [.Name s_middle p2] [] p3) [.Assign [.Name s_low p16] (.Name s_middle p17) p18] [.Assign [.Name s_high p19] (.Name s_middle p20) p21] p22] [] p23, .Return (some (.Name s_low p24)) p25] t ∧
      t D [some (.int lo), some (.int hi), some (.ref f), o] H := by
  have n0 : X.N[0]? = some s_low := by rw [hN]; rfl
  have n1 : X.N[1]? = some s_high := by rw [hN]; rfl
  have n3 : X.N[3]? = some s_middle := by rw [hN]; rfl
  have nd : X.N.Nodup := by rw [hN]; decide
  refine ⟨_, pss_cons (ps_while hp (pt_cmpR op_gt (pe_op op_sub (pe_var n1 (.inl h1)) (pe_var n0 (.inl h0))) pe_int (nobehind _ (by decide) (by decide))) (pss_cons (ps_asg (pe_op op_fdiv (pe_op op_add (pe_var n0 (.inl h0)) (pe_var n1 (.inl h1))) pe_int) (pg_name nd n3 (.inl h3) (.inr h3)))
    (pss_one (ps_if (pt_val hact) (pss_one (ps_asg (pe_var n3 (.inl h3)) (pg_name nd n0 (.inl h0) (.inr h0)))) (pss_one (ps_asg (pe_var n3 (.inl h3)) (pg_name nd n1 (.inl h1) (.inr h1)))))))) (pss_one (ps_ret (pe_var n0 (.inl h0)))), ?_⟩
  refine ⟨fun n σ H => ∃ lo hi o, σ = [some (.int lo), some (.int hi), some (.ref f), o] ∧ fitT act n lo hi H fun r H' => D.rt (.int r) H', ⟨n, lo, hi, o, rfl, hD⟩, ?_⟩
  rintro n σ H ⟨lo, hi, o, rfl, h⟩
  refine ⟨.int hi, rfl, .int lo, rfl, hi, lo, rfl, rfl, hi - lo, 1, rfl, rfl, decide (1 < hi - lo), rfl, ?_⟩
  by_cases c : 1 < hi - lo
  · simp only [decide_eq_true c, if_true]
    cases n with
    | zero => exact absurd c h.1
    | succ n =>
      rw [fitT, if_pos c] at h
      refine ⟨fun σ H => ∃ lo hi o, σ = [some (.int lo), some (.int hi), some (.ref f), o] ∧ fitT act n lo hi H fun r H' => D.rt (.int r) H', fun σ' H' z => ⟨n, by omega, z⟩, ?_⟩
      refine ⟨.int lo, rfl, .int hi, rfl, lo, hi, rfl, rfl, lo + hi, 2, rfl, rfl, ⟨by decide, by decide⟩, rfl, (lo + hi) / 2, rfl, hm _ _ _ _ (fun b H1 hb => ⟨b, rfl, ?_⟩) h⟩
      cases b with
      | true =>
        rw [if_pos rfl] at hb
        exact ⟨.int ((lo + hi) / 2), rfl, _, _, _, rfl, hb⟩
      | false =>
        rw [if_neg (by simp)] at hb
        exact ⟨.int ((lo + hi) / 2), rfl, _, _, _, rfl, hb⟩
  · simp only [decide_eq_false c, Bool.false_eq_true, if_false]
    refine ⟨.int lo, rfl, ?_⟩
    cases n with
    | zero => exact h.2
    | succ n =>
      rw [fitT, if_neg c] at h
      exact h
end
def fitE (fb : Ev → Ou Vl) : Nat → Ev → Int → Int → Ou Vl
  | 0, r, lo, hi => if 1 < hi - lo then .no else .ok (.i lo, .c) r
  | n + 1, r, lo, hi => if 1 < hi - lo then (match fb (r ++ [some (.i ((lo + hi) / 2), .c)]) with
      | .ok (.b true, .c) r3 => fitE fb n r3.dropLast ((lo + hi) / 2) hi
      | .ok (.b false, .c) r3 => fitE fb n r3.dropLast lo ((lo + hi) / 2)
      | _ => .no) else .ok (.i lo, .c) r
section
variable {K : PySem.W.Frag} {cl : Str → Addr} {W0 : WX} {σ : L2.St} {H0 : Hp} {M0 : Addr → Prop} {G0 : Nat → List Addr} {c' : Addr} {q : Str}
def actF (K : PySem.W.Frag) (cl : Str → Addr) (W0 : WX) (σ : L2.St) (c' : Addr) (q : Str) (fb : Ev → Ou Vl) (m : Int) (H : Hp) (Q : Bool → Hp → Prop) : Prop :=
  H c' = some (LamX.CodeO c' q) ∧ tI K cl W0 fb (σ ++ [some (.int m)]) H fun v H1 => ∃ b, v = .bl b ∧ Q b H1
theorem actF_mono {fb : Ev → Ou Vl} (m : Int) (H : Hp) (Q Q' : Bool → Hp → Prop) (h : ∀ b H1, Q b H1 → Q' b H1) (a : actF K cl W0 σ c' q fb m H Q) : actF K cl W0 σ c' q fb m H Q' := by
  obtain ⟨hc, r, M, G, e, h2⟩ := a
  refine ⟨hc, r, M, G, e, ?_⟩
  cases hf : fb r with
  | ok x r1 =>
    rw [hf] at h2
    exact fun v H' M' G' F p => let ⟨b, e1, e2⟩ := h2 v H' M' G' F p; ⟨b, e1, h _ _ e2⟩
  | ex c fs r1 => rw [hf] at h2; exact h2
  | no => rw [hf] at h2; exact h2
theorem fit_in {fb : Ev → Ou Vl} (ht0 : Hotty M0 H0) : ∀ (n : Nat) (r : Ev) (lo hi : Int) (x : Vl) (r' : Ev), fitE fb n r lo hi = .ok x r' → ∀ {M : Addr → Prop} {G : Nat → List Addr} {H : Hp}, ER K r σ G M H → Evo H0 M0 G0 H M G [] → H c' = some (LamX.CodeO c' q) →
    fitT (actF K cl W0 σ c' q fb) n lo hi H fun res H' => x = (.i res, .c) ∧ ∃ M' G', ER K r' σ G' M' H' ∧ Evo H0 M0 G0 H' M' G' []
  | 0, r, lo, hi, x, r', h, M, G, H, e, ev, hc => by
    rw [fitE] at h
    by_cases c : 1 < hi - lo
    · rw [if_pos c] at h; cases h
    · rw [if_neg c] at h
      cases h
      exact ⟨c, rfl, M, G, e, ev⟩
  | n + 1, r, lo, hi, x, r', h, M, G, H, e, ev, hc => by
    rw [fitE] at h
    rw [fitT]
    by_cases c : 1 < hi - lo
    · rw [if_pos c] at h ⊢
      have es := e.snoc (v := .int ((lo + hi) / 2)) (x := .i ((lo + hi) / 2)) (m := .c) (F := []) ⟨.i _, rfl⟩ List.nodup_nil (fun b z => nomatch z)
      have ev2 : Evo H0 M0 G0 H M (fun j => if j = r.length then [] else G j) [] := ev.less fun i b hb => by
        by_cases q : i = r.length
        · simp [q] at hb
        · simp only [if_neg q] at hb; exact ⟨i, hb⟩
      refine ⟨hc, _, M, _, es, ?_⟩
      cases hfb : fb (r ++ [some (.i ((lo + hi) / 2), .c)]) with
      | no => rw [hfb] at h; cases h
      | ex c fs r1 => rw [hfb] at h; cases h
      | ok xm r3 =>
        rw [hfb] at h
        obtain ⟨y, m⟩ := xm
        simp only
        intro v H' M' G' F p
        have hc' : H' c' = some (LamX.CodeO c' q) := p.ev.pres c' _ hc (fun i hi => by
          obtain ⟨u, h1, h2⟩ := es.hot c' (es.sub i c' hi)
          rw [hc] at h1; cases h1
          exact codeO_nh h2) (nt := fun ps z => LamX.codeO_ne ps z)
        have hl : r3.length = r.length + 1 := by have := p.er.len; rw [this]; simp [e.len]
        have hne : r3 ≠ [] := fun z => by rw [z] at hl; simp at hl
        have er := p.er
        rw [← List.dropLast_concat_getLast hne] at er
        have eu := er.unsnoc
        cases m with
        | t =>
          cases y with
          | b k => cases k <;> cases h
          | _ => cases h
        | a =>
          cases y with
          | b k => cases k <;> cases h
          | _ => cases h
        | c =>
          cases y with
          | b k =>
            obtain ⟨c1, hF⟩ := p.rp
            subst hF
            have ev3 := (ev2.trans ht0 p.ev).less (G2 := fun j => if j < r3.dropLast.length then G' j else []) fun i b hb => by
              have hb : b ∈ (if i < r3.dropLast.length then G' i else []) := hb
              split at hb
              · exact ⟨i, hb⟩
              · cases hb
            cases c1 with
            | b =>
              refine ⟨k, rfl, ?_⟩
              cases k with
              | true => rw [if_pos rfl]; exact fit_in ht0 n _ _ _ x r' h eu ev3 hc'
              | false => rw [if_neg (by simp)]; exact fit_in ht0 n _ _ _ x r' h eu ev3 hc'
          | _ => cases h
    · rw [if_neg c] at h ⊢
      cases h
      exact ⟨rfl, M, G, e, ev⟩
end
theorem fitE_ex {fb : Ev → Ou Vl} {c : Str} {fs : List (Str × Dt)} {r' : Ev} : ∀ (n : Nat) (r : Ev) (lo hi : Int), fitE fb n r lo hi ≠ .ex c fs r'
  | 0, r, lo, hi, h => by
    rw [fitE] at h
    split at h <;> cases h
  | n + 1, r, lo, hi, h => by
    rw [fitE] at h
    split at h
    · split at h
      · exact fitE_ex n _ _ _ h
      · exact fitE_ex n _ _ _ h
      · cases h
    · cases h
def mFit (fa fb2 fb : Ev → Ou Vl) : Ev → Ou Vl := fun r => match fa r with
  | .ok (.i lo, .c) r1 => (match fb2 r1 with
    | .ok (.i hi, .c) r2 => fitE fb (hi - lo).toNat r2 lo hi
    | .ex c fs r2 => .ex c fs r2
    | _ => .no)
  | .ex c fs r1 => .ex c fs r1
  | _ => .no
section
variable {K : PySem.W.Frag}
/-- the tables with the names told in them -/
def tabsL (K : PySem.W.Frag) : List (Addr × Str) := lamNames.filterMap fun x => (PySem.W.tabIn K x).map fun p => (p.2, x ++ ".<locals>." ++ "<lambda>")
theorem in_tabK {x : Str} {c P : Addr} (hx : x ∈ lamNames) (h : PySem.W.tabIn K x = some (c, P)) : TabK K P (x ++ ".<locals>." ++ "<lambda>") := by
  unfold PySem.W.tabIn at h
  split at h
  · rename_i f hf
    split at h
    · rename_i hfo
      split at h
      · rename_i c2 hc
        split at h
        · rename_i hco
          split at h
          · rename_i P2 hv
            cases h
            exact ⟨x, f, _, _, _, _, _, hx, hf, hfo, rfl, hc, hco, rfl, hv, rfl⟩
          · cases h
        · cases h
      · cases h
    · cases h
  · cases h
theorem tabs_K {H : Hp} (t : LamX.Tabs (tabsL K) H) : TabsK K H := fun P q k => by
  obtain ⟨x, hx, c, h1, h2⟩ := tabK_in k
  have := t (P, q) (List.mem_filterMap.mpr ⟨x, hx, by rw [h1, h2]; rfl⟩)
  exact this
theorem tabs_L {H : Hp} (t : TabsK K H) : LamX.Tabs (tabsL K) H := fun p hp => by
  obtain ⟨x, hx, e⟩ := List.mem_filterMap.mp hp
  obtain ⟨⟨c, P⟩, h1, rfl⟩ := Option.map_eq_some_iff.mp e
  exact t _ _ (in_tabK hx h1)
end
end Y
namespace Y
open PySem L2 PyProof.Rows
section
variable {X : Cx} {pins : List (Addr × Obj)} {σ : L2.St} {H : Hp} {s : Shared}
theorem lam_makeD {c P : Addr} {params : Arguments} {body : Expr} {scope : Scope} {pos : Pos} {E : Value → Shared → Prop} {Q : Value → Shared → Prop} (I : L2.Inv X pins σ H s) (tK : TabsK X.K H) (TB : LamX.TabB X.base X.mg c P) (hcode : X.env.code = .ref c)
    (hm : (P, X.env.qual ++ "<lambda>") ∈ tabsL X.K) (hu : ∀ p ∈ tabsL X.K, p.1 = P → p.2 = X.env.qual ++ "<lambda>") (hdef : defaultsOf params X.env = ([], [])) (hfree : ∀ y ∈ scope.names, y.2 = .free → ∃ c, X.env.cells.lookup y.1 = some c)
    (h : ∀ (f c' : Addr) (pm ctv : Value) (H1 : Hp) (s' : Shared), L2.Inv X pins σ H1 s' → SW X.K H H1 →
      s'.heap.get? f = some (PySem.W.kla_obj "<lambda>" (X.env.qual ++ "<lambda>") params body scope (cloFrom X.env.cells scope.names []) pm c' ctv) → H1 f = none → f ∉ frs X.stack → H1 c' = some (LamX.CodeO c' (X.env.qual ++ "<lambda>")) → Q (.ref f) s') :
    wpAny (model X.prog X.w) X.A (eval (.Lambda params body scope pos) X.env) Q E s := by
  have hT := tabs_L tK
  obtain ⟨ps, hP, ht, ha⟩ := hT _ hm
  refine PySem.W.kla_eval hdef ?_
  have hP' : s.heap.get? P = some (PySem.W.tabObj ps) := I.hok P _ hP
  have nofr : ∀ f, s.heap.objs.size ≤ f → f ∉ frs X.stack := fun f hf z => by
    rcases List.mem_cons.mp (I.stkSub _ z) with e | e
    · exact absurd I.lt (by rw [← e]; exact Nat.not_lt.mpr hf)
    · exact I.nofs hf e
  cases hc : codeAmong pos ps.toList with
  | some cv =>
    obtain ⟨c', rfl, hco⟩ := ha pos cv hc
    refine PySem.W.kla_makeFunctionHit (mg := X.mg) (c := c) (P := P) (ps := ps) (closure_ok hfree) I.ok.glob (I.mod.glob.keeps I.bk) hcode (TB.code.keeps I.bk) hP' ht hc (TB.bm.keeps I.bk) fun ctv h' tk hx hsz => ?_
    exact h h'.objs.size c' ((X.mg "__name__").getD .none) ctv H _ (I.kept fun b o e => Heap.get?_push_of_some _ (hx b o e)) ⟨fun _ _ e _ => e, tK, fun _ e => e⟩ (Heap.get?_push_size _ rfl) (I.hok.fresh hsz) (nofr _ hsz) hco
  | none =>
    refine PySem.W.kla_makeFunction (mg := X.mg) (c := c) (P := P) (ps := ps) (closure_ok hfree) I.ok.glob (I.mod.glob.keeps I.bk) hcode (TB.code.keeps I.bk) hP' ht hc TB.gP (TB.bm.keeps I.bk) fun c' ctv h' tk hx hge hlt hrec htb => ?_
    obtain ⟨c2, oc, vs, t, e2, hoc, hd, hv⟩ := hrec
    cases e2
    have hsz : s.heap.objs.size ≤ h'.objs.size := Nat.le_trans hge (Nat.le_of_lt hlt)
    have nC : H c' = none := I.hok.fresh hge
    have hpc : P ≠ c' := fun z => by rw [← z, hP] at nC; cases nC
    obtain ⟨H1, hH1⟩ : ∃ H1, H1 = upd (upd H P (.tbl (ps ++ #[rawInt pos.line, rawInt pos.col, .ref c']))) c' (LamX.CodeO c' (X.env.qual ++ "<lambda>")) := ⟨_, rfl⟩
    have I1 := LamX.inv_table (t' := tk) (more := #[rawInt pos.line, rawInt pos.col, .ref c']) (h' := h'.push (PySem.W.kla_obj "<lambda>" (X.env.qual ++ "<lambda>") params body scope (cloFrom X.env.cells scope.names []) ((X.mg "__name__").getD .none) c' ctv)) I hP
      (fun b o hb e => Heap.get?_push_of_some _ (hx b o hb e)) (Heap.get?_push_of_some _ htb) hge ⟨oc, vs, t, Heap.get?_push_of_some _ hoc, hd, hv⟩
    rw [← hH1] at I1
    have aC : H1 c' = some (LamX.CodeO c' (X.env.qual ++ "<lambda>")) := by rw [hH1]; exact upd_same
    have aP : H1 P = some (.tbl (ps ++ #[rawInt pos.line, rawInt pos.col, .ref c'])) := by rw [hH1, upd_ne hpc, upd_same]
    have aB : ∀ b, b ≠ P → b ≠ c' → H1 b = H b := fun b h1 h2 => by rw [hH1, upd_ne h2, upd_ne h1]
    have st : ∀ b o, H b = some o → notT o → H1 b = some o := fun b o e n => by
      rw [aB b (fun z => by rw [z, hP] at e; cases e; exact n _ rfl) (fun z => by rw [z, nC] at e; cases e)]
      exact e
    have sw : SW X.K H H1 := by
      refine ⟨st, tabs_K fun p hp => ?_, fun b e => ?_⟩
      · by_cases hb : p.1 = P
        · rw [hu p hp hb, hb]
          refine ⟨_, aP, by rw [show (ps ++ #[rawInt pos.line, rawInt pos.col, Value.ref c']).toList = ps.toList ++ [rawInt pos.line, rawInt pos.col, .ref c'] by simp]; exact PySem.TriplesOk_snoc _ _ _ _ ht, fun p' cv hcv => ?_⟩
          rw [show (ps ++ #[rawInt pos.line, rawInt pos.col, Value.ref c']).toList = ps.toList ++ [rawInt pos.line, rawInt pos.col, .ref c'] by simp] at hcv
          rcases LamX.among_app _ ht hcv with z | z
          · obtain ⟨c0, e1, e2⟩ := ha p' cv z
            exact ⟨c0, e1, st _ _ e2 fun ps z => LamX.codeO_ne ps z⟩
          · exact ⟨c', z, aC⟩
        · obtain ⟨ps', a1, a2, a3⟩ := hT p hp
          refine ⟨ps', by rw [aB p.1 hb fun z => by rw [z, nC] at a1; cases a1]; exact a1, a2, fun p' cv hcv => ?_⟩
          obtain ⟨c0, e1, e2⟩ := a3 p' cv hcv
          exact ⟨c0, e1, st _ _ e2 fun ps z => LamX.codeO_ne ps z⟩
      · by_cases h1 : b = P
        · rw [h1, aP] at e; cases e
        · by_cases h2 : b = c'
          · rw [h2, aC] at e; cases e
          · rw [aB b h1 h2] at e; exact e
    refine h h'.objs.size c' ((X.mg "__name__").getD .none) ctv H1 _ I1 sw (Heap.get?_push_size _ rfl) ?_ (nofr _ hsz) aC
    rw [aB _ (fun z => ?_) fun z => ?_]
    · exact I.hok.fresh hsz
    · exact absurd (Heap.lt_size hP') (by rw [← z]; exact Nat.not_lt.mpr hsz)
    · exact absurd hlt (by rw [← z]; exact Nat.lt_irrefl _)
end
section
variable {X : Cx} {cl : Str → Addr} {W : WX}
theorem tI_mono {K : PySem.W.Frag} {W0 : WX} {f : Ev → Ou Vl} {σ : L2.St} {H : Hp} {Q Q' : VK} (h : ∀ v H1, Q v H1 → Q' v H1) (t : tI K cl W0 f σ H Q) : tI K cl W0 f σ H Q' := by
  obtain ⟨r, M, G, e, h2⟩ := t
  refine ⟨r, M, G, e, ?_⟩
  cases hf : f r with
  | ok x r1 => rw [hf] at h2; exact fun v H' M' G' F p => h _ _ (h2 v H' M' G' F p)
  | ex c fs r1 => rw [hf] at h2; exact h2
  | no => rw [hf] at h2; exact h2
theorem fitT_mono {act : Int → Hp → (Bool → Hp → Prop) → Prop} (hm : ∀ m H Q Q', (∀ b H1, Q b H1 → Q' b H1) → act m H Q → act m H Q') {Q Q' : Int → Hp → Prop} (h : ∀ r H1, Q r H1 → Q' r H1) : ∀ (n : Nat) (lo hi : Int) (H : Hp), fitT act n lo hi H Q → fitT act n lo hi H Q'
  | 0, lo, hi, H, t => ⟨t.1, h _ _ t.2⟩
  | n + 1, lo, hi, H, t => by
    rw [fitT] at t ⊢
    by_cases c : 1 < hi - lo
    · rw [if_pos c] at t ⊢
      refine hm _ _ _ _ (fun b H1 q => ?_) t
      cases b with
      | true => rw [if_pos rfl] at q ⊢; exact fitT_mono hm h n _ _ _ q
      | false => rw [if_neg (by simp)] at q ⊢; exact fitT_mono hm h n _ _ _ q
    · rw [if_neg c] at t ⊢
      exact h _ _ t
/-- greatest_fit(a, b, lambda some: ..) -/
theorem je_fit {ea eb : Expr} {fa fb2 fb : Ev → Ou Vl} {x : Str} {g : Addr} {fdg : FuncData} {stg : Stmt} {k : Nat} {params : Arguments} {body : Expr} {scope : Scope} {lpos p pos : Pos} {a : Str} {c P : Addr}
    (hg : Gl X x) (hm : X.mg x = some (.ref g)) (Fg : Fun X.K x x stg g fdg) (hb : L2.Binds X.K fdg [s_low, s_high, s_fits] []) (Sg : FnScope [s_low, s_high, s_fits, s_middle] [s_low, s_high, s_fits] (defScope stg)) (l2 : (defScope stg).names.lookup s_fits = some .local) (l3 : (defScope stg).names.lookup s_middle = some .local)
    (hfit : ∀ (Z : Cx) (f : Addr) (act : Int → Hp → (Bool → Hp → Prop) → Prop), PassesOwn (model Z.prog Z.w) Z.A Z.env Z.xe → Z.N = [s_low, s_high, s_fits, s_middle] → Z.env.scope = defScope stg → (∀ p1 p2 p3, PE Z (.Call (.Name s_fits p1) [.Name s_middle p2] [] p3) fun σ H Q => σ[2]? = some (some (.ref f)) ∧ ∃ m : Int, σ[3]? = some (some (.int m)) ∧ act m H fun b H1 => Q (.bl b) H1) →
      (∀ m H Q Q', (∀ b H1, Q b H1 → Q' b H1) → act m H Q → act m H Q') → ∀ (D : Ends) (n : Nat) (lo hi : Int) (H : Hp) (o : Option V), fitT act n lo hi H (fun r H' => D.rt (.int r) H') → ∃ t, PSs Z (defBody stg) t ∧ t D [some (.int lo), some (.int hi), some (.ref f), o] H)
    (TB : LamX.TabB X.base X.mg c P) (hcode : X.env.code = .ref c) (hmT : (P, X.env.qual ++ "<lambda>") ∈ tabsL X.K) (hu : ∀ p ∈ tabsL X.K, p.1 = P → p.2 = X.env.qual ++ "<lambda>") (hr : Room (k + 2) X.A) (L : LamS1 X.env.scope scope a) (na : a ∉ X.N) (hdef : defaultsOf params X.env = ([], []))
    (hbind : ∀ (q : Str) (cl : List (Str × Addr)) (pm cv ctv u : Value), bindArgs (PySem.W.kla_fn "<lambda>" q params body scope cl pm cv ctv) ⟨[u], []⟩ = pure [(a, u)])
    (ja : JE X cl W ea fa) (jb : JE X cl W eb fb2)
    (hl : ∀ (A : Around) (outer : List Env) (s : Shared) (H : Hp) (E : XK) (f c' : Addr), Room k (A.deeper (LamX.lamEnv X scope s.heap.objs.size f c')) → JE (lamCx1 X a A outer s H E scope f c') cl (fun _ _ _ _ => False) body fb)
    (hdb : (x == ("__debug__" : Str)) = false := by decide) (he : starEach [ea, eb, .Lambda params body scope lpos] X.env = (false, eval ea X.env) :: starEach [eb, .Lambda params body scope lpos] X.env := by rfl) (he2 : starEach [eb, .Lambda params body scope lpos] X.env = (false, eval eb X.env) :: starEach [.Lambda params body scope lpos] X.env := by rfl)
    (he3 : starEach [.Lambda params body scope lpos] X.env = (false, eval (.Lambda params body scope lpos) X.env) :: starEach [] X.env := by rfl) (hpl : (backTo pos (starEach [eb, .Lambda params body scope lpos] X.env)).any (·.1) = false := by rfl) :
    JE X cl W (.Call (.Name x p) [ea, eb, .Lambda params body scope lpos] [] pos) (mFit fa fb2 fb) := fun tk => ⟨fun pins s σ H Q I h => by
  obtain ⟨r, M, G, er, h⟩ := h
  refine wpAny_Call_Name_kw (ld_glob I hg hm ?_ hdb)
  refine PySem.W.callWith_K (h₀ := X.base) I.ok.mod.kin Fg.kp ?_ he hpl
  rw [he]
  show wpAny _ _ (spliced ((false, eval ea X.env) :: backTo pos (starEach [eb, .Lambda params body scope lpos] X.env))) _ _ s
  refine Calls.spliced_cons (thn ((ja tk).run pins s σ H (fun v H1 => ∃ lo r1 M1 G1, v = .int lo ∧ ER X.K r1 σ G1 M1 H1 ∧ Evo H M G H1 M1 G1 [] ∧ (match fb2 r1 with
    | .ok (.i hi, .c) r2 => match fitE fb (hi - lo).toNat r2 lo hi with
      | .ok (x, m) r' => ∀ v H' M' G' F, PX X.K r' σ H M G v x m H' M' G' F → Q v H'
      | _ => False
    | .ex c fs r' => ∀ d H' M' G', XX X.K r' σ H M G fs d H' M' G' → W (.ref (cl c)) d σ H'
    | _ => False)) I ⟨r, M, G, er, ?_⟩) ?_)
  · simp only [mFit] at h
    cases hfa : fa r with
    | no => rw [hfa] at h; exact h
    | ex c fs r1 => rw [hfa] at h; exact h
    | ok xm r1 =>
      rw [hfa] at h
      obtain ⟨y, m⟩ := xm
      simp only
      intro v H1 M1 G1 F p
      cases m with
      | t => cases y <;> exact h.elim
      | a => cases y <;> exact h.elim
      | c =>
        cases y with
        | i lo =>
          obtain ⟨c1, hF⟩ := p.rp
          subst hF
          cases c1 with
          | i =>
            refine ⟨lo, r1, M1, G1, rfl, p.er, p.ev, ?_⟩
            simp only at h
            cases hfb : fb2 r1 with
            | no => rw [hfb] at h; exact h
            | ex c fs r2 => rw [hfb] at h; exact h
            | ok xm2 r2 =>
              rw [hfb] at h
              obtain ⟨y2, m2⟩ := xm2
              cases m2 with
              | t => cases y2 <;> exact h.elim
              | a => cases y2 <;> exact h.elim
              | c =>
                cases y2 with
                | i hi =>
                  simp only at h ⊢
                  cases hx : fitE fb (hi - lo).toNat r2 lo hi with
                  | no => rw [hx] at h; exact h
                  | ex c fs r' => exact (fitE_ex _ _ _ _ hx).elim
                  | ok y r' => rw [hx] at h; exact h
                | _ => exact h.elim
        | _ => exact h.elim
  · rintro ua s1 ⟨va, H1, I1, ra, lo, r1, M1, G1, rfl, er1, ev1, h1⟩
    rw [he2]
    show wpAny _ _ (spliced ((false, eval eb X.env) :: backTo pos (starEach [.Lambda params body scope lpos] X.env))) _ _ s1
    refine Calls.spliced_cons (thn ((jb tk).run pins s1 σ H1 (fun v H2 => ∃ hi r2 M2 G2, v = .int hi ∧ ER X.K r2 σ G2 M2 H2 ∧ Evo H M G H2 M2 G2 [] ∧ (match fitE fb (hi - lo).toNat r2 lo hi with
      | .ok (x, m) r' => ∀ v H' M' G' F, PX X.K r' σ H M G v x m H' M' G' F → Q v H'
      | _ => False)) I1 ?_) ?_)
    · refine ⟨r1, M1, G1, er1, ?_⟩
      cases hfb : fb2 r1 with
      | no => rw [hfb] at h1; exact h1
      | ex c fs r2 => rw [hfb] at h1; exact fun d H' M' G' p => h1 d H' M' G' ⟨p.er, ev1.trans er.hot p.ev, p.xd⟩
      | ok xm r2 =>
        rw [hfb] at h1
        obtain ⟨y, m⟩ := xm
        simp only
        intro v H2 M2 G2 F p
        cases m with
        | t => cases y <;> exact h1.elim
        | a => cases y <;> exact h1.elim
        | c =>
          cases y with
          | i hi =>
            obtain ⟨c1, hF⟩ := p.rp
            subst hF
            cases c1 with
            | i => exact ⟨hi, r2, M2, G2, rfl, p.er, ev1.trans er.hot p.ev, h1⟩
          | _ => exact h1.elim
    · rintro ub s2 ⟨vb, H2, I2, rb, hi, r2, M2, G2, rfl, er2, ev2, h2⟩
      rw [he3]
      show wpAny _ _ (spliced ((false, eval (.Lambda params body scope lpos) X.env) :: backTo pos (starEach [] X.env))) _ _ s2
      refine Calls.spliced_cons (lam_makeD I2 er2.tab TB hcode hmT hu hdef (L.has I2.ok) fun f c' pm' ctv H3 s3 I3 sw hf hfn hfr hco => ?_)
      refine Calls.spliced_nil ⟨I3.kIn, ?_⟩
      obtain ⟨er3, ev3⟩ := er2.grownW sw
      have ev3 := ev2.trans er.hot ev3
      cases hx : fitE fb (hi - lo).toNat r2 lo hi with
      | no => rw [hx] at h2; exact h2.elim
      | ex c fs r' => exact (fitE_ex _ _ _ _ hx).elim
      | ok y r' =>
        rw [hx] at h2
        obtain ⟨y, m⟩ := y
        simp only at h2
        have FF := fit_in (cl := cl) (W0 := fun _ _ _ _ => False) (c' := c') (q := X.env.qual ++ "<lambda>") er.hot (hi - lo).toNat r2 lo hi (y, m) r' hx er3 ev3 hco
        obtain ⟨_, _, _, _, _, _, cdv, _, _, rfl, lk, hcd⟩ := Fg.ex
        have rc : codeAny (model X.prog X.w) X.A (.call (.ref g) ⟨[ua, ub, .ref f], []⟩) (CR (L2.CX X.prog X.w) X.stack X.prog X.w H3 s3 Q fun _ _ _ => False) s3 := by
          refine LamX.run_ofS (N := [s_low, s_high, s_fits, s_middle]) (ps := [s_low, s_high, s_fits]) (us := [ua, ub, .ref f]) (vs := [.int lo, .int hi, .ref f]) lk hcd Sg hr.1 I3.env0 (hb s3 [ua, ub, .ref f] I3.kIn rfl) (.cons ra (.cons rb (.cons rfl .nil))) rfl fun hr' => ?_
          refine hfit _ f (actF X.K cl (fun _ _ _ _ => False) σ c' (X.env.qual ++ "<lambda>") fb) (passes_of rfl) rfl rfl (fun p1 p2 p3 => ?_) actF_mono _ (hi - lo).toNat lo hi H3 none ?_
          · exact (pe_act1 (a := a) (W := fun _ _ _ _ => False) (E := fun _ _ _ => False) (i := 2) (nm := s_fits) (k := k) (pn := []) (CXg := L2.CX X.prog X.w) (Eg := fun _ _ _ => False) (Ng := [s_low, s_high, s_fits, s_middle]) (qg := x) (sg := defScope stg) (g := g) (cdg := cdv) (xe := (cxOf (L2.CX X.prog X.w) X.prog X.w X.K X.mg X.base [s_low, s_high, s_fits, s_middle] x (defScope stg) g cdv X.A X.stack s3 H3 fun _ _ _ => False).xe) I3 L na hf hfn hfr (fun u => hbind _ _ _ _ _ u) LamX.takes0 (fun _ _ _ _ z => z) (hr.deeper _) (fun A outer s H hr2 => hl A outer s H _ f c' hr2 LamX.takes0) rfl (.inl l2) (pa_cons (pe_var (i := 3) rfl (.inl l3)) pa_nil)).yimp fun σZ HZ Q' hq => by
              obtain ⟨q1, m, q2, hc, q3⟩ := hq
              exact ⟨q1, .int m, q2, .int m, rfl, hc, tI_mono (fun v H1 ⟨b, e, q⟩ => by rw [e]; exact q) q3⟩
          · refine fitT_mono actF_mono (fun res H' ⟨e, M', G', er', ev'⟩ => ?_) _ _ _ _ FF
            cases e
            exact h2 (.int res) H' M' G' [] ⟨er', ev', ⟨.i _, rfl⟩, List.nodup_nil, fun b z => nomatch z⟩
        refine wpAny_call (codeAny_mono rc fun r s4 hq => ?_)
        cases r with
        | error e => exact passes_call LamX.takes0 (fun _ _ _ _ z => z) pins σ H3 s3 e s4 I3 hq
        | ok fl =>
          cases fl with
          | ret u => exact I3.after hq
          | next => exact False.elim hq
          | brk => exact False.elim hq
          | cont => exact False.elim hq⟩
end
end Y
namespace Y
open PySem L2 PyProof.Rows
section
variable {P : Program} {w : World} {K : PySem.W.Frag} {mg : Str → Option Value} {base : Heap} {cl : Str → Addr} {io : Bool}
theorem fn_okXC {x qual : Str} {st : Stmt} {f : Addr} {fd : FuncData} {N ps : List Str} {k : Nat} {sp : Sp} (F : Fun K x qual st f fd) (S : FnScope N ps (defScope st)) (len : ∀ as Hs Qs Es, sp as Hs Qs Es → as.length = ps.length)
    (go : ∀ (cdv : Value) (B : Around) (out : List Env) (s : Shared) (Hs : Hp) (as : List V) (Qs : VK) (Es : XK), fd.code = cdv → Room k (B.deeper (envOfC qual (defScope st) s.heap.objs.size f cdv)) → sp as Hs Qs Es →
      ∃ t, PSs (cxOf (L2.CX P w) P w K mg base N qual (defScope st) f cdv B out s Hs Es) (defBody st) t ∧ t { nx := fun _ H' => Qs .non H', rt := Qs } (start N as) Hs) : FnOk P w K mg base (L2.CX P w) (k + 1) f fd ps sp := by
  obtain ⟨_, _, _, _, _, _, cdv, _, _, rfl, lk, hcd⟩ := F.ex
  exact fn_by lk hcd S len fun B out s Hs as Qs Es rm hsp => go cdv B out s Hs as Qs Es rfl rm hsp
/-- the rule for a def, its code told -/
theorem fn_okC {x qual : Str} {st : Stmt} {f : Addr} {fd : FuncData} {N ps : List Str} {k n nn : Nat} {g : Ev → So} (F : Fun K x qual st f fd) (S : FnScope N ps (defScope st)) (hn : ps.length = n := by rfl) (hnn : N.length = nn := by rfl) (hio : io = true → 0 < n := by decide)
    (hb : ∀ (cdv : Value) (A : Around) (outer : List Env) (s : Shared) (H : Hp) (E : XK), fd.code = cdv → Room k (A.deeper (envOfC qual (defScope st) s.heap.objs.size f cdv)) → JB (cxOf (L2.CX P w) P w K mg base N qual (defScope st) f cdv A outer s H E) cl (fun cls d _ H => E cls d H) io (defBody st) g) :
    FnOk P w K mg base (L2.CX P w) (k + 1) f fd ps (spY K cl io n (mkFn io nn g)) := by
  subst hn hnn
  refine fn_okXC F S (fun vs H Q E h => h.1) fun cdv A outer s H vs Q E hcd hr h => ⟨_, hb cdv A outer s H E hcd hr (takes_of rfl rfl rfl rfl), ?_⟩
  obtain ⟨hlen, xs, M, G, e, gio, h⟩ := h
  have hxl : xs.length = vs.length := by simpa using e.len
  have e0 : ER K (xs.map some ++ List.replicate (N.length - xs.length) none) (start N vs) G M H := by
    have := e.pad (N.length - xs.length)
    rw [hxl] at this ⊢
    exact this
  refine ⟨_, M, G, e0, ?_⟩
  have first : io = true → ∃ v0, (start N vs)[0]? = some (some v0) ∧ ioS true vs = [some v0] := fun z => by
    have := hio z
    cases vs with
    | nil => simp at hlen; omega
    | cons v0 vs => exact ⟨v0, rfl, by simp [ioS]⟩
  simp only [mkFn] at h
  have done : ∀ (x : Dt) (m : Md) (r' : Ev), (match fin io (x, m) r' with
      | .rt (x, m) z => ∀ v H' M' G' F, PX K (ioE io z) (ioS io vs) H M G v x m H' M' G' F → Q v H'
      | .ex c fs z => ∀ d H' M' G', XX K (ioE io z) (ioS io vs) H M G fs d H' M' G' → E (.ref (cl c)) d H'
      | .no => False) → ∀ v σ' H' M' G' F, RX K io r' (start N vs) σ' H M G v x m H' M' G' F → Q v H' := fun x m r' h v σ' H' M' G' F p => by
    have hv : io = true → ∃ v0, σ'[0]? = some (some v0) ∧ ioS true vs = [some v0] := fun z => by
      obtain ⟨v0, h1, h2⟩ := first z
      exact ⟨v0, (p.pin z).trans h1, h2⟩
    cases io with
    | false =>
      simp only [fin] at h
      obtain ⟨G2, q⟩ := out_px (z := (.n, .c)) (vs := vs) hv (fun z => nomatch z) p.px
      exact h v H' M' G2 F q
    | true =>
      simp only [fin] at h
      cases hr : r'[0]? with
      | none => rw [hr] at h; exact h.elim
      | some o =>
        cases o with
        | none => rw [hr] at h; exact h.elim
        | some z =>
          rw [hr] at h
          obtain ⟨G2, q⟩ := out_px (z := z) (vs := vs) hv (fun _ => hr) p.px
          exact h v H' M' G2 F q
  cases hg : g (xs.map some ++ List.replicate (N.length - xs.length) none) with
  | no => rw [hg] at h; exact h
  | bk r' => rw [hg] at h; exact h.elim
  | ct r' => rw [hg] at h; exact h.elim
  | nx r' =>
    rw [hg] at h
    exact fun σ' H' M' G' p => done .n .c r' h .non σ' H' M' G' [] ⟨⟨p.er, p.ev, ⟨.n, rfl⟩, List.nodup_nil, fun _ z => (nomatch z)⟩, p.pin⟩
  | rt xm r' =>
    obtain ⟨x, m⟩ := xm
    rw [hg] at h
    exact fun v σ' H' M' G' F p => done x m r' h v σ' H' M' G' F p
  | ex c fs r' =>
    rw [hg] at h
    intro d σ' H' M' G' p
    have hv : io = true → ∃ v0, σ'[0]? = some (some v0) ∧ ioS true vs = [some v0] := fun z => by
      obtain ⟨v0, h1, h2⟩ := first z
      exact ⟨v0, (p.pin z).trans h1, h2⟩
    cases io with
    | false =>
      simp only [finX] at h
      obtain ⟨G2, q⟩ := out_xx (z := (.n, .c)) (vs := vs) hv (fun z => nomatch z) p.xx
      exact h d H' M' G2 q
    | true =>
      simp only [finX] at h
      cases hr : r'[0]? with
      | none => rw [hr] at h; exact h.elim
      | some o =>
        cases o with
        | none => rw [hr] at h; exact h.elim
        | some z =>
          rw [hr] at h
          obtain ⟨G2, q⟩ := out_xx (z := z) (vs := vs) hv (fun _ => hr) p.xx
          exact h d H' M' G2 q
theorem code_of {x y qual : Str} {st : Stmt} {f c P : Addr} {fd : FuncData} (F : Fun K y qual st f fd) (hn : PySem.W.nsIn K mainGlobals x = some (some (.ref f))) (ht : PySem.W.tabIn K x = some (c, P)) : fd.code = .ref c := by
  obtain ⟨_, _, _, _, _, _, cdv, _, _, e, lk, _⟩ := F.ex
  unfold PySem.W.tabIn at ht
  rw [hn] at ht
  simp only at ht
  rw [lk] at ht
  simp only at ht
  split at ht
  · rename_i c2 hc
    split at ht
    · split at ht
      · cases ht; exact hc
      · cases ht
    · cases ht
  · cases ht
theorem tabsL_1 {c P : Addr} (h : PySem.W.tabIn K "came_at" = some (c, P)) (h2 : PySem.W.tabIn K "tail" = none) : tabsL K = [(P, ("came_at" : Str) ++ ".<locals>." ++ "<lambda>")] := by
  unfold tabsL lamNames
  simp only [List.filterMap_cons, List.filterMap_nil, h, h2, Option.map_some, Option.map_none]
theorem tabsOf_1 {c P : Addr} (h : PySem.W.tabIn K "came_at" = some (c, P)) (h2 : PySem.W.tabIn K "tail" = none) : tabsOf K = [(c, P)] := by
  unfold tabsOf lamNames
  simp only [List.filterMap_cons, List.filterMap_nil, h, h2]
theorem tabIn_none {x : Str} (h : PySem.W.nsIn K mainGlobals x = some none) : PySem.W.tabIn K x = none := by
  unfold PySem.W.tabIn
  rw [h]
theorem tab_mk {x : Str} {f c P : Addr} {oc0 : Value} {od0 : Option Addr} {fd : FuncData} {osl0 : Array (Option Value)} {co : Obj} {vs : Array Value} (h1 : PySem.W.nsIn K mainGlobals x = some (some (.ref f))) (h2 : K.lookup f = some ⟨oc0, od0, .func fd, osl0⟩) (h3 : fd.code = .ref c) (h4 : K.lookup c = some co) (h5 : co.data = .fields vs) (h6 : vs[11]? = some (.ref P)) : PySem.W.tabIn K x = some (c, P) := by
  unfold PySem.W.tabIn
  rw [h1]
  simp only
  rw [h2]
  simp only
  rw [h3]
  simp only
  obtain ⟨c1, d1, dt1, s1⟩ := co
  simp only at h5
  subst h5
  rw [h4]
  simp only
  rw [h6]
theorem tabs_mem {c P : Addr} {q : Str} (h : PySem.W.tabIn K "came_at" = some (c, P)) (h2 : PySem.W.tabIn K "tail" = none) (e : q = ("came_at" : Str) ++ ".<locals>." ++ "<lambda>") : (P, q) ∈ tabsL K := by
  rw [tabsL_1 h h2, e]
  exact List.mem_singleton.mpr rfl
theorem tabs_uniq {c P : Addr} {q : Str} (h : PySem.W.tabIn K "came_at" = some (c, P)) (h2 : PySem.W.tabIn K "tail" = none) (e : q = ("came_at" : Str) ++ ".<locals>." ++ "<lambda>") : ∀ p ∈ tabsL K, p.1 = P → p.2 = q := fun p hp _ => by
  rw [tabsL_1 h h2] at hp
  rw [List.mem_singleton.mp hp, e]
end
end Y
namespace Y
open PySem L2
def srch (t : Int → Bool) : Nat → Int → Int → Int
  | 0, lo, _ => lo
  | n + 1, lo, hi => if 1 < hi - lo then (if t ((lo + hi) / 2) = true then srch t n ((lo + hi) / 2) hi else srch t n lo ((lo + hi) / 2)) else lo
theorem fitE_eq {fb : Ev → Ou Vl} {t : Int → Bool} {r : Ev} : ∀ (n : Nat) (lo hi : Int), hi - lo ≤ n → (∀ m, lo < m → m < hi → fb (r ++ [some (.i m, .c)]) = .ok (.b (t m), .c) (r ++ [some (.i m, .c)])) → fitE fb n r lo hi = .ok (.i (srch t n lo hi), .c) r
  | 0, lo, hi, h, _ => by
    rw [fitE, if_neg (by omega), srch]
  | n + 1, lo, hi, h, hf => by
    rw [fitE, srch]
    by_cases c : 1 < hi - lo
    · rw [if_pos c, if_pos c, hf _ (by omega) (by omega)]
      cases ht : t ((lo + hi) / 2) with
      | true =>
        simp only [List.dropLast_concat, if_true]
        exact fitE_eq n _ _ (by omega) fun m h1 h2 => hf m (by omega) h2
      | false =>
        simp only [List.dropLast_concat, Bool.false_eq_true, if_false]
        exact fitE_eq n _ _ (by omega) fun m h1 h2 => hf m h1 (by omega)
    · rw [if_neg c, if_neg c]
theorem srch_spec {t : Int → Bool} : ∀ (n : Nat) (lo hi : Int), hi - lo ≤ n → (∀ a b, lo < a → a ≤ b → b < hi → t b = true → t a = true) → lo ≤ srch t n lo hi ∧ (srch t n lo hi = lo ∨ (srch t n lo hi < hi ∧ t (srch t n lo hi) = true)) ∧ ∀ m, srch t n lo hi < m → m < hi → t m = false
  | 0, lo, hi, h, _ => by
    rw [srch]
    exact ⟨Int.le_refl _, .inl rfl, fun m h1 h2 => by omega⟩
  | n + 1, lo, hi, h, mono => by
    rw [srch]
    by_cases c : 1 < hi - lo
    · rw [if_pos c]
      cases ht : t ((lo + hi) / 2) with
      | true =>
        rw [if_pos rfl]
        obtain ⟨a1, a2, a3⟩ := srch_spec (t := t) n ((lo + hi) / 2) hi (by omega) fun a b h1 h2 h3 h4 => mono a b (by omega) h2 h3 h4
        refine ⟨by omega, .inr ?_, a3⟩
        rcases a2 with e | e
        · rw [e]; exact ⟨by omega, ht⟩
        · exact e
      | false =>
        rw [if_neg (by simp)]
        obtain ⟨a1, a2, a3⟩ := srch_spec (t := t) n lo ((lo + hi) / 2) (by omega) fun a b h1 h2 h3 h4 => mono a b h1 h2 (by omega) h4
        refine ⟨a1, ?_, fun m h1 h2 => ?_⟩
        · rcases a2 with e | ⟨e1, e2⟩
          · exact .inl e
          · exact .inr ⟨by omega, e2⟩
        · by_cases hm : m < (lo + hi) / 2
          · exact a3 m h1 hm
          · cases tm : t m with
            | false => rfl
            | true =>
              have := mono ((lo + hi) / 2) m (by omega) (by omega) h2 tm
              rw [ht] at this
              cases this
    · rw [if_neg c]
      exact ⟨Int.le_refl _, .inl rfl, fun m h1 h2 => by omega⟩
theorem wE_fit {fa fb2 fb : Ev → Ou Vl} {r : Ev} {Q : Vl → Ev → Prop} (h : wE fa r fun x r1 => ∃ lo, x = (.i lo, .c) ∧ wE fb2 r1 fun y r2 => ∃ (hi : Int) (t : Int → Bool), y = (.i hi, .c) ∧ (∀ a b, lo < a → a ≤ b → b < hi → t b = true → t a = true) ∧
    (∀ m, lo < m → m < hi → wE fb (r2 ++ [some (.i m, .c)]) fun z r3 => z = (.b (t m), .c) ∧ r3 = r2 ++ [some (.i m, .c)]) ∧ ∀ s, lo ≤ s → (s = lo ∨ (s < hi ∧ t s = true)) → (∀ m, s < m → m < hi → t m = false) → Q (.i s, .c) r2) : wE (mFit fa fb2 fb) r Q := by
  unfold wE at h ⊢
  simp only [mFit]
  cases h1 : fa r with
  | no => rw [h1] at h; exact h
  | ex _ _ _ => rw [h1] at h; exact h
  | ok x r1 =>
    rw [h1] at h
    obtain ⟨lo, rfl, h⟩ := h
    simp only
    cases h2 : fb2 r1 with
    | no => rw [h2] at h; exact h.elim
    | ex _ _ _ => rw [h2] at h; exact h.elim
    | ok y r2 =>
      rw [h2] at h
      obtain ⟨hi, t, rfl, mono, hf, q⟩ := h
      simp only
      have e := fitE_eq (fb := fb) (t := t) (r := r2) (hi - lo).toNat lo hi (by omega) fun m a b => by
        have := hf m a b
        cases h3 : fb (r2 ++ [some (.i m, .c)]) with
        | no => rw [h3] at this; exact this.elim
        | ex _ _ _ => rw [h3] at this; exact this.elim
        | ok z r3 => rw [h3] at this; obtain ⟨rfl, rfl⟩ := this; rfl
      rw [e]
      obtain ⟨a1, a2, a3⟩ := srch_spec (t := t) (hi - lo).toNat lo hi (by omega) mono
      exact q _ a1 a2 a3
end Y
namespace Y
open PySem L2 PyProof.Rows
/-- come to: the document's words -/
def comeB (here there : List Int) (m : Int) : Bool :=
  if there = [] ∨ m = 0 then decide (there = [] ∧ m = 0)
  else if m ∈ there then decide (m = lmax (there.headD 0) there.tail) || here.any (fun w => decide (w < m))
  else decide (m ∈ here) && decide (m < lmax (there.headD 0) there.tail)
def cot (here there : List Int) (m : Int) : Dt := .t [.t [.t (here.map .i), .t (there.map .i)], .t [.i m]]
/-- the number of what's come to -/
def numF (F there : List Int) (m : Int) : Int :=
  if there = [] then 0 else baseN (F.idxOf (lmax (there.headD 0) there.tail)) (hvN (fun v => decide (v ∈ there)) (F.take (F.idxOf (lmax (there.headD 0) there.tail)))) + (F.idxOf m : Nat) - lowN (hvN (fun v => decide (v ∈ there)) (F.take (F.idxOf (lmax (there.headD 0) there.tail))))
def bitF (F : List Int) (l : Nat) : List Int := ((List.range F.length).filter fun j => bitN l j).map fun j => F.getD j 0
theorem there_filter {F there : List Int} (hF : F.Pairwise (· < ·)) (ht : there.Pairwise (· < ·)) (hs : ∀ w ∈ there, w ∈ F) : there = F.filter fun v => decide (v ∈ there) := by
  have nF : F.Nodup := hF.imp fun h => by omega
  have nt : there.Nodup := ht.imp fun h => by omega
  have h1 : isrt there = there := isrt_id (ht.imp fun h => by omega)
  have h2 : isrt (F.filter fun v => decide (v ∈ there)) = F.filter fun v => decide (v ∈ there) := isrt_id ((hF.filter _).imp fun h => by omega)
  refine h1.symm.trans (Eq.trans ?_ h2)
  refine isrt_same nt (nF.filter _) fun v => ?_
  rw [List.mem_filter, decide_eq_true_eq]
  exact ⟨fun h => ⟨hs v h, h⟩, fun h => h.2⟩
theorem hv_split {F : List Int} (hF : F.Pairwise (· < ·)) {p : Int → Bool} {top : Int} (ht : top ∈ F) (hp : p top = true) (le : ∀ v, p v = true → v ≤ top) : hvN p F = hvN p (F.take (F.idxOf top)) + 2 ^ (F.idxOf top) := by
  have hlt := List.idxOf_lt_length_iff.mpr ht
  have e : F = F.take (F.idxOf top) ++ (top :: F.drop (F.idxOf top + 1)) := by
    have := List.take_append_drop (F.idxOf top) F
    rw [List.drop_eq_getElem_cons hlt, List.getElem_idxOf hlt] at this
    exact this.symm
  have hz : hvN p (F.drop (F.idxOf top + 1)) = 0 := hvN_none fun v hv => by
    rw [e] at hF
    have := (List.pairwise_cons.mp (List.pairwise_append.mp hF).2.1).1 v hv
    cases hq : p v with
    | false => rfl
    | true => have := le v hq; omega
  have hl : (F.take (F.idxOf top)).length = F.idxOf top := by rw [List.length_take]; omega
  conv => lhs; rw [e]
  rw [hvN_app, hvN, hp, hz, hl]
  simp
theorem bit_hv {p : Int → Bool} : ∀ (L : List Int) (j : Nat), bitN (hvN p L) j = (L[j]?.any p)
  | [], j => by simp [hvN, bit_zero]
  | a :: L, 0 => by
    rw [bit_0, hvN]
    cases h : p a <;> simp [h] <;> omega
  | a :: L, j + 1 => by
    rw [bit_s, hvN, show ((if p a = true then 1 else 0) + 2 * hvN p L) / 2 = hvN p L by split <;> omega, bit_hv L j]
    simp
theorem hvN_ext {p q : Int → Bool} : ∀ {L : List Int}, (∀ v ∈ L, p v = q v) → hvN p L = hvN q L
  | [], _ => rfl
  | a :: L, h => by rw [hvN, hvN, h a List.mem_cons_self, hvN_ext fun v hv => h v (List.mem_cons_of_mem _ hv)]
theorem hv_bit : ∀ {L : List Int} (l : Nat), L.Nodup → l < 2 ^ L.length → hvN (fun v => bitN l (L.idxOf v)) L = l
  | [], l, _, h => by simp at h; subst h; rfl
  | a :: L, l, nd, h => by
    obtain ⟨n1, n2⟩ := List.nodup_cons.mp nd
    rw [List.length_cons, pow2] at h
    have ih := hv_bit (L := L) (l / 2) n2 (by omega)
    have e : hvN (fun v => bitN l ((a :: L).idxOf v)) L = hvN (fun v => bitN (l / 2) (L.idxOf v)) L := hvN_ext fun v hv => by
      have : (a == v) = false := by simp; intro c; exact n1 (c ▸ hv)
      rw [List.idxOf_cons, this]
      exact bit_s _ _
    rw [hvN, e, ih, List.idxOf_cons_self, bit_0]
    by_cases c : l % 2 = 1
    · rw [decide_eq_true c]; simp; omega
    · rw [decide_eq_false c]; simp; omega
theorem idx_ge {F : List Int} (nd : F.Nodup) (j : Nat) (h : j < F.length) : F.idxOf F[j] = j := by
  have m : F[j] ∈ F := List.getElem_mem h
  have l := List.idxOf_lt_length_iff.mpr m
  have e := List.getElem_idxOf l
  have pw := List.pairwise_iff_getElem.mp nd
  by_cases c : F.idxOf F[j] < j
  · exact absurd e (pw _ _ l h c)
  · by_cases d : j < F.idxOf F[j]
    · exact absurd e.symm (pw _ _ h l d)
    · omega
theorem idx_at {F : List Int} (nd : F.Nodup) {j : Nat} (h : j < F.length) : F.idxOf (F.getD j 0) = j := by
  have e : F.getD j 0 = F[j] := by simp [List.getD_eq_getElem?_getD, List.getElem?_eq_getElem h]
  rw [e]
  exact idx_ge nd j h
theorem getD_idx {F : List Int} {v : Int} (h : v ∈ F) : F.getD (F.idxOf v) 0 = v := by
  have hl := List.idxOf_lt_length_iff.mpr h
  rw [List.getD_eq_getElem?_getD, List.getElem?_eq_getElem hl, List.getElem_idxOf hl]
  rfl
theorem getD_mem {F : List Int} {j : Nat} (h : j < F.length) : F.getD j 0 ∈ F := by
  rw [List.getD_eq_getElem?_getD, List.getElem?_eq_getElem h]
  exact List.getElem_mem h
theorem bitF_eq {F : List Int} (nd : F.Nodup) (l : Nat) : bitF F l = F.filter fun v => bitN l (F.idxOf v) := by
  have e : F = (List.range F.length).map fun j => F.getD j 0 := by
    refine List.ext_getElem (by simp) fun j h1 h2 => ?_
    simp [List.getD_eq_getElem?_getD, List.getElem?_eq_getElem h1]
  unfold bitF
  conv => rhs; arg 2; rw [e]
  rw [List.filter_map]
  congr 1
  refine List.filter_congr fun j hj => ?_
  have := List.mem_range.mp hj
  simp only [Function.comp]
  rw [idx_at nd this]
theorem idx_lt {F : List Int} (hF : F.Pairwise (· < ·)) {v w : Int} (hv : v ∈ F) (hw : w ∈ F) : F.idxOf v < F.idxOf w ↔ v < w := by
  have a := List.idxOf_lt_length_iff.mpr hv
  have b := List.idxOf_lt_length_iff.mpr hw
  have ea := List.getElem_idxOf a
  have eb := List.getElem_idxOf b
  have pw := List.pairwise_iff_getElem.mp hF
  constructor
  · intro c
    have := pw _ _ a b c
    omega
  · intro c
    by_cases d : F.idxOf v < F.idxOf w
    · exact d
    · by_cases e : F.idxOf w < F.idxOf v
      · have := pw _ _ b a e
        omega
      · have e2 : F.idxOf v = F.idxOf w := by omega
        have : v = w := by rw [← ea, ← eb]; simp only [e2]
        omega
theorem mem_take {F : List Int} (nd : F.Nodup) {t : Nat} {v : Int} : v ∈ F.take t ↔ v ∈ F ∧ F.idxOf v < t := by
  rw [List.mem_take_iff_getElem]
  constructor
  · rintro ⟨j, hj, rfl⟩
    have hl : j < F.length := by omega
    exact ⟨List.getElem_mem _, by rw [idx_ge nd j hl]; omega⟩
  · rintro ⟨h1, h2⟩
    exact ⟨F.idxOf v, by have := List.idxOf_lt_length_iff.mpr h1; omega, List.getElem_idxOf (List.idxOf_lt_length_iff.mpr h1)⟩
theorem hvN_bitF {F : List Int} (nd : F.Nodup) {l : Nat} (h : l < 2 ^ F.length) : hvN (fun v => decide (v ∈ bitF F l)) F = l := by
  refine (hvN_ext fun v hv => ?_).trans (hv_bit l nd h)
  rw [bitF_eq nd]
  by_cases c : bitN l (F.idxOf v) = true
  · rw [c]; exact decide_eq_true (List.mem_filter.mpr ⟨hv, c⟩)
  · rw [Bool.not_eq_true _ |>.mp c]; exact decide_eq_false fun h => c (List.mem_filter.mp h).2
/-- what tells a house come to, but the new one: the rank of the heaviest one beyond, the others by twos, the memory's rank -/
structure Tri (F : List Int) (t s i : Nat) : Prop where
  t_ : t < F.length
  s_ : s < 2 ^ t
  lo : lowN s ≤ i
  hi : i ≤ t
/-- come to, by the folk in order -/
structure Cm (F there : List Int) (m : Int) : Prop where
  srt : there.Pairwise (· < ·)
  sub : ∀ w ∈ there, w ∈ F
  nil : there = [] → m = 0
  mF : there ≠ [] → m ∈ F
  ok : comeB (F.filter fun v => !decide (v ∈ there)) there m = true
theorem cm_tri {F there : List Int} {m : Int} (hF : F.Pairwise (· < ·)) (h : Cm F there m) (ne : there ≠ []) : ∃ t s i, Tri F t s i ∧ numF F there m = baseN t s + i - lowN s ∧ there = bitF F (s + 2 ^ t) ∧ m = F.getD i 0 ∧ lmax (there.headD 0) there.tail = F.getD t 0 ∧ t = F.idxOf (lmax (there.headD 0) there.tail) ∧ i = F.idxOf m ∧ s = hvN (fun v => decide (v ∈ there)) (F.take t) := by
  have nd : F.Nodup := hF.imp fun h => by omega
  obtain ⟨x1, x2⟩ := lmax_in ne
  have mF := h.mF ne
  have hc := h.ok
  refine ⟨F.idxOf (lmax (there.headD 0) there.tail), hvN (fun v => decide (v ∈ there)) (F.take (F.idxOf (lmax (there.headD 0) there.tail))), F.idxOf m, ?_, by unfold numF; rw [if_neg ne], ?_, (getD_idx mF).symm, (getD_idx (h.sub _ x1)).symm, rfl, rfl, rfl⟩
  · generalize hT : lmax (there.headD 0) there.tail = top at *
    have tF := h.sub _ x1
    have tl := List.idxOf_lt_length_iff.mpr tF
    have ml := List.idxOf_lt_length_iff.mpr mF
    have s2 := hvN_hi (fun v => decide (v ∈ there)) (F.take (F.idxOf top))
    rw [List.length_take, Nat.min_eq_left (by omega)] at s2
    have gt : ∀ {v : Int}, v ∈ F → v < top → (F.take (F.idxOf top))[F.idxOf v]? = some v := fun {v} hv hl => by
      have := (idx_lt hF hv tF).mpr hl
      rw [List.getElem?_take_of_lt this, List.getElem?_eq_getElem (by omega), List.getElem_idxOf]
    have i1 : m ≤ top ∧ (m = top ∨ (m < top ∧ lowN (hvN (fun v => decide (v ∈ there)) (F.take (F.idxOf top))) ≤ F.idxOf m)) := by
      unfold comeB at hc
      rw [hT] at hc
      by_cases z : m = 0
      · simp [z, ne] at hc
      · rw [if_neg (by simp [z, ne])] at hc
        by_cases c : m ∈ there
        · rw [if_pos c] at hc
          have le := x2 m c
          refine ⟨le, ?_⟩
          by_cases e : m = top
          · exact .inl e
          · right
            simp only [e, decide_false, Bool.false_or, List.any_eq_true, decide_eq_true_eq, List.mem_filter, Bool.not_eq_true', decide_eq_false_iff_not] at hc
            obtain ⟨u, ⟨u1, u2⟩, u3⟩ := hc
            have := hvN_low (p := fun v => decide (v ∈ there)) (gt u1 (by omega)) (decide_eq_false u2)
            have := (idx_lt hF u1 mF).mpr u3
            exact ⟨by omega, by omega⟩
        · rw [if_neg c] at hc
          simp only [Bool.and_eq_true, decide_eq_true_eq] at hc
          exact ⟨by omega, .inr ⟨hc.2, hvN_low (p := fun v => decide (v ∈ there)) (gt mF hc.2) (decide_eq_false c)⟩⟩
    refine ⟨tl, s2, ?_, ?_⟩
    · rcases i1.2 with e | ⟨_, e⟩
      · rw [e]; exact low_le _ _ s2
      · exact e
    · rcases i1.2 with e | ⟨e, _⟩
      · rw [e]; exact Nat.le_refl _
      · exact Nat.le_of_lt ((idx_lt hF mF tF).mpr e)
  · rw [← hv_split hF (h.sub _ x1) (p := fun v => decide (v ∈ there)) (decide_eq_true x1) fun v hv => x2 v (by simpa using hv), bitF_eq nd]
    conv => lhs; rw [there_filter hF h.srt h.sub]
    refine List.filter_congr fun v hv => ?_
    have hl := List.idxOf_lt_length_iff.mpr hv
    rw [bit_hv, List.getElem?_eq_getElem hl, List.getElem_idxOf hl]
    rfl
theorem tri_bit {F : List Int} {t s i : Nat} (h : Tri F t s i) (j : Nat) : bitN (s + 2 ^ t) j = if j = t then true else if j < t then bitN s j else false := by
  have hs := h.s_
  have key : ∀ (t s j : Nat), s < 2 ^ t → bitN (s + 2 ^ t) j = if j = t then true else if j < t then bitN s j else false := by
    intro t
    induction t with
    | zero =>
      intro s j hs
      have : s = 0 := by omega
      subst this
      cases j with
      | zero => simp [bitN]
      | succ j => rw [bit_s]; simp [bit_zero]
    | succ t ih =>
      intro s j hs
      rw [pow2] at hs
      cases j with
      | zero =>
        rw [bit_0, if_neg (by omega), if_pos (by omega), bit_0, pow2]
        congr 2
        omega
      | succ j =>
        rw [bit_s, bit_s, show (s + 2 ^ (t + 1)) / 2 = s / 2 + 2 ^ t by rw [pow2]; omega, ih (s / 2) j (by omega)]
        by_cases c : j = t
        · simp [c]
        · by_cases d : j < t
          · simp [c, d]
          · simp [c, d]
  exact key t s j hs
theorem tri_mem {F : List Int} (hF : F.Pairwise (· < ·)) {t s i : Nat} (h : Tri F t s i) {v : Int} : v ∈ bitF F (s + 2 ^ t) ↔ v ∈ F ∧ (F.idxOf v = t ∨ (F.idxOf v < t ∧ bitN s (F.idxOf v) = true)) := by
  have nd : F.Nodup := hF.imp fun h => by omega
  rw [bitF_eq nd, List.mem_filter, tri_bit h]
  constructor
  · rintro ⟨h1, h2⟩
    refine ⟨h1, ?_⟩
    by_cases c : F.idxOf v = t
    · exact .inl c
    · rw [if_neg c] at h2
      by_cases d : F.idxOf v < t
      · rw [if_pos d] at h2; exact .inr ⟨d, h2⟩
      · rw [if_neg d] at h2; cases h2
  · rintro ⟨h1, h2⟩
    refine ⟨h1, ?_⟩
    rcases h2 with c | ⟨c, d⟩
    · rw [if_pos c]
    · rw [if_neg (by omega), if_pos c]; exact d
theorem tri_top {F : List Int} (hF : F.Pairwise (· < ·)) {t s i : Nat} (h : Tri F t s i) : bitF F (s + 2 ^ t) ≠ [] ∧ lmax ((bitF F (s + 2 ^ t)).headD 0) (bitF F (s + 2 ^ t)).tail = F.getD t 0 := by
  have nd : F.Nodup := hF.imp fun h => by omega
  have m1 : F.getD t 0 ∈ bitF F (s + 2 ^ t) := (tri_mem hF h).mpr ⟨getD_mem h.t_, .inl (idx_at nd h.t_)⟩
  have ne : bitF F (s + 2 ^ t) ≠ [] := fun e => by rw [e] at m1; cases m1
  refine ⟨ne, ?_⟩
  obtain ⟨x1, x2⟩ := lmax_in ne
  have a := x2 _ m1
  obtain ⟨b1, b2⟩ := (tri_mem hF h).mp x1
  generalize lmax ((bitF F (s + 2 ^ t)).headD 0) (bitF F (s + 2 ^ t)).tail = top at *
  by_cases c : top = F.getD t 0
  · exact c
  · have := (idx_lt hF (getD_mem h.t_) b1).mpr (by omega)
    rw [idx_at nd h.t_] at this
    omega
theorem tri_hv {F : List Int} (hF : F.Pairwise (· < ·)) {t s i : Nat} (h : Tri F t s i) : hvN (fun v => decide (v ∈ bitF F (s + 2 ^ t))) (F.take t) = s := by
  have nd : F.Nodup := hF.imp fun h => by omega
  obtain ⟨ne, e⟩ := tri_top hF h
  obtain ⟨x1, x2⟩ := lmax_in ne
  rw [e] at x1 x2
  have hl : s + 2 ^ t < 2 ^ F.length := by
    have h1 := h.s_
    have h2 := Nat.pow_le_pow_right (n := 2) (by omega) (show t + 1 ≤ F.length from h.t_)
    rw [pow2] at h2
    omega
  have a := hv_split hF (getD_mem h.t_) (p := fun v => decide (v ∈ bitF F (s + 2 ^ t))) (decide_eq_true x1) fun v hv => x2 v (by simpa using hv)
  rw [hvN_bitF nd hl, idx_at nd h.t_] at a
  omega
theorem tri_cm {F : List Int} (hF : F.Pairwise (· < ·)) (pos : ∀ w ∈ F, 1 ≤ w) {t s i : Nat} (h : Tri F t s i) : Cm F (bitF F (s + 2 ^ t)) (F.getD i 0) ∧ numF F (bitF F (s + 2 ^ t)) (F.getD i 0) = baseN t s + i - lowN s := by
  have nd : F.Nodup := hF.imp fun h => by omega
  obtain ⟨ne, e⟩ := tri_top hF h
  have hi : i < F.length := Nat.lt_of_le_of_lt h.hi h.t_
  have mF := getD_mem hi
  have m1 := pos _ mF
  refine ⟨⟨by rw [bitF_eq nd]; exact hF.filter _, fun w hw => ((tri_mem hF h).mp hw).1, fun c => absurd c ne, fun _ => mF, ?_⟩, ?_⟩
  · unfold comeB
    rw [if_neg (fun q => q.elim ne fun z => by omega), e]
    have tm : (F.getD i 0 = F.getD t 0) ∨ F.getD i 0 < F.getD t 0 := by
      by_cases c : i = t
      · left; rw [c]
      · right
        refine (idx_lt hF mF (getD_mem h.t_)).mp ?_
        rw [idx_at nd hi, idx_at nd h.t_]
        have := h.hi
        omega
    by_cases c : F.getD i 0 ∈ bitF F (s + 2 ^ t)
    · rw [if_pos c, Bool.or_eq_true, decide_eq_true_eq]
      obtain ⟨c1, c2⟩ := (tri_mem hF h).mp c
      rw [idx_at nd hi] at c2
      rcases c2 with c2 | ⟨c2, c3⟩
      · left; rw [c2]
      · right
        have lo := h.lo
        have b := bit_at (lowN s) s rfl
        have hne : lowN s ≠ i := fun q => by rw [q] at b; rw [b] at c3; cases c3
        have hl : lowN s < F.length := by omega
        simp only [List.any_eq_true, decide_eq_true_eq, List.mem_filter, Bool.not_eq_true', decide_eq_false_iff_not]
        refine ⟨F.getD (lowN s) 0, ⟨getD_mem hl, fun q => ?_⟩, (idx_lt hF (getD_mem hl) mF).mp (by rw [idx_at nd hl, idx_at nd hi]; omega)⟩
        obtain ⟨_, q2⟩ := (tri_mem hF h).mp q
        rw [idx_at nd hl] at q2
        rcases q2 with q2 | ⟨_, q2⟩
        · omega
        · rw [b] at q2; cases q2
    · rw [if_neg c, Bool.and_eq_true, decide_eq_true_eq, decide_eq_true_eq]
      refine ⟨List.mem_filter.mpr ⟨mF, by simpa using c⟩, ?_⟩
      rcases tm with q | q
      · exfalso
        obtain ⟨x1, _⟩ := lmax_in ne
        rw [e, ← q] at x1
        exact c x1
      · exact q
  · unfold numF
    rw [if_neg ne, e, idx_at nd h.t_, idx_at nd hi, tri_hv hF h]
theorem tri_less {F : List Int} {t s i t' s' i' : Nat} (h : Tri F t s i) (h' : Tri F t' s' i') (c : t < t' ∨ (t = t' ∧ (s < s' ∨ (s = s' ∧ i < i')))) : baseN t s + i - lowN s < baseN t' s' + i' - lowN s' := by
  have n1 := base_next t s
  have a1 := h.lo
  have a2 := h.hi
  have b1 := h'.lo
  have b2 := h'.hi
  have s1 := h.s_
  have s2 := h'.s_
  rcases c with c | ⟨rfl, c | ⟨rfl, c⟩⟩
  · have m1 := base_le (t := t) (s := s + 1) (s' := 2 ^ t) (by omega) (by omega)
    rw [base_top] at m1
    have m2 := base_up (t := t + 1) (t' := t') (by omega)
    have m3 := base_le (t := t') (s := 0) (s' := s') (by omega) (by omega)
    omega
  · have m1 := base_le (t := t) (s := s + 1) (s' := s') (by omega) (by omega)
    omega
  · omega
theorem tri_ex {F : List Int} {N : Int} (h1 : 1 ≤ N) (h2 : N < baseN F.length 0) : ∃ t s i, Tri F t s i ∧ N = baseN t s + i - lowN s := by
  have key : ∀ n : Nat, N < baseN n 0 → ∃ t s i, t < n ∧ s < 2 ^ t ∧ lowN s ≤ i ∧ i ≤ t ∧ N = baseN t s + i - lowN s := by
    intro n
    induction n with
    | zero =>
      intro h
      have : baseN 0 0 = 1 := by simp [baseN, onesN]
      omega
    | succ n ih =>
      intro h
      by_cases c : N < baseN n 0
      · obtain ⟨t, s, i, a, b⟩ := ih c
        exact ⟨t, s, i, by omega, b⟩
      · rw [← base_top] at h
        have key2 : ∀ m : Nat, m ≤ 2 ^ n → N < baseN n m → ∃ s i, s < m ∧ lowN s ≤ i ∧ i ≤ n ∧ N = baseN n s + i - lowN s := by
          intro m
          induction m with
          | zero => intro _ q; exact absurd q c
          | succ m ih2 =>
            intro q1 q2
            by_cases d : N < baseN n m
            · obtain ⟨s, i, a, b⟩ := ih2 (by omega) d
              exact ⟨s, i, by omega, b⟩
            · rw [base_next] at q2
              refine ⟨m, (N - baseN n m + lowN m).toNat, by omega, by omega, by omega, by omega⟩
        obtain ⟨s, i, a, b, c2, d⟩ := key2 _ (Nat.le_refl _) h
        exact ⟨n, s, i, by omega, a, b, c2, d⟩
  obtain ⟨t, s, i, a, b, c, d, e⟩ := key _ h2
  exact ⟨t, s, i, ⟨a, b, c, d⟩, e⟩
theorem tri_range {F : List Int} {t s i : Nat} (h : Tri F t s i) : 1 ≤ baseN t s + i - lowN s ∧ baseN t s + i - lowN s < baseN F.length 0 := by
  have a1 := h.lo
  have a2 := h.hi
  have s1 := h.s_
  have b1 := base_1 t s (by omega)
  have n1 := base_next t s
  have m1 := base_le (t := t) (s := s + 1) (s' := 2 ^ t) (by omega) (by omega)
  rw [base_top] at m1
  have m2 := base_up (t := t + 1) (t' := F.length) h.t_
  omega
theorem cm_range {F there : List Int} {m : Int} (hF : F.Pairwise (· < ·)) (h : Cm F there m) : 0 ≤ numF F there m ∧ numF F there m < baseN F.length 0 ∧ (numF F there m = 0 ↔ there = []) := by
  by_cases ne : there = []
  · have b := base_1 F.length 0 (by have := pow1 F.length; omega)
    unfold numF
    rw [if_pos ne]
    exact ⟨by omega, by omega, by simp [ne]⟩
  · obtain ⟨t, s, i, tr, e, _⟩ := cm_tri hF h ne
    have := tri_range tr
    rw [e]
    exact ⟨by omega, by omega, by simp [ne]; omega⟩
/-- each number is one's -/
theorem cm_ex {F : List Int} (hF : F.Pairwise (· < ·)) (pos : ∀ w ∈ F, 1 ≤ w) {N : Int} (h1 : 0 ≤ N) (h2 : N < baseN F.length 0) : ∃ there m, Cm F there m ∧ numF F there m = N := by
  by_cases c : N = 0
  · subst c
    exact ⟨[], 0, ⟨.nil, fun w hw => (by cases hw), fun _ => rfl, fun c => absurd rfl c, by simp [comeB]⟩, by simp [numF]⟩
  · obtain ⟨t, s, i, tr, e⟩ := tri_ex (F := F) (show 1 ≤ N by omega) h2
    obtain ⟨a, b⟩ := tri_cm hF pos tr
    exact ⟨_, _, a, by rw [b, e]⟩
/-- by which they stand in order -/
theorem cm_less {F A B : List Int} {a b : Int} (hF : F.Pairwise (· < ·)) (h : Cm F A a) (h' : Cm F B b) (c : (A = [] ∧ B ≠ []) ∨ (A ≠ [] ∧ B ≠ [] ∧ (lmax (A.headD 0) A.tail < lmax (B.headD 0) B.tail ∨ (lmax (A.headD 0) A.tail = lmax (B.headD 0) B.tail ∧ (hvN (fun v => decide (v ∈ A)) (F.take (F.idxOf (lmax (A.headD 0) A.tail))) < hvN (fun v => decide (v ∈ B)) (F.take (F.idxOf (lmax (B.headD 0) B.tail))) ∨ (hvN (fun v => decide (v ∈ A)) (F.take (F.idxOf (lmax (A.headD 0) A.tail))) = hvN (fun v => decide (v ∈ B)) (F.take (F.idxOf (lmax (B.headD 0) B.tail))) ∧ a < b)))))) : numF F A a < numF F B b := by
  rcases c with ⟨c1, c2⟩ | ⟨c1, c2, c⟩
  · have r1 := cm_range hF h
    have r2 := cm_range hF h'
    have : numF F A a = 0 := r1.2.2.mpr c1
    have : numF F B b ≠ 0 := fun q => c2 (r2.2.2.mp q)
    omega
  · obtain ⟨x1, _⟩ := lmax_in c1
    obtain ⟨y1, _⟩ := lmax_in c2
    have hx := h.sub _ x1
    have hy := h'.sub _ y1
    have ha := h.mF c1
    have hb := h'.mF c2
    obtain ⟨t, s, i, tr, e1, _, _, _, et, ei, es⟩ := cm_tri hF h c1
    obtain ⟨t', s', i', tr', e1', _, _, _, et', ei', es'⟩ := cm_tri hF h' c2
    rw [e1, e1']
    refine tri_less tr tr' ?_
    rcases c with c | ⟨c, d⟩
    · left
      rw [et, et']
      exact (idx_lt hF hx hy).mpr c
    · right
      have ett : t = t' := by rw [et, et', c]
      refine ⟨ett, ?_⟩
      rw [es, es', ei, ei', ett]
      rw [c] at d
      rw [et']
      rcases d with d | ⟨d, d2⟩
      · exact .inl d
      · exact .inr ⟨d, (idx_lt hF ha hb).mpr d2⟩
theorem cm_hou {F there : List Int} {m : Int} (f : Fk F) (h : Cm F there m) : Hou F 1 [F.filter fun v => !decide (v ∈ there), there] [m] := by
  refine ⟨rfl, rfl, ?_, fun r hr => ?_, fun x hx => ?_⟩
  · have e := there_filter f.srt h.srt h.sub
    have p := List.filter_append_perm (fun v => decide (v ∈ there)) F
    rw [← e] at p
    simp only [List.flatten_cons, List.flatten_nil, List.append_nil]
    exact List.perm_append_comm.trans p
  · simp only [List.mem_cons, List.not_mem_nil, or_false] at hr
    rcases hr with rfl | rfl
    · exact f.srt.filter _
    · exact h.srt
  · rw [List.mem_singleton.mp hx]
    by_cases c : there = []
    · rw [h.nil c]; omega
    · have := f.bd m (h.mF c); omega
/-- as stands, by the folk in order -/
theorem cm_of {F there : List Int} {m : Int} (hF : F.Pairwise (· < ·)) (pos : ∀ w ∈ F, 1 ≤ w) (hS : there.Sublist F) (c : comeB (F.filter fun v => !decide (v ∈ there)) there m = true) : Cm F there m := by
  have c0 := c
  refine ⟨hF.sublist hS, fun w hw => hS.subset hw, fun e => ?_, fun ne => ?_, c⟩
  · subst e; simpa [comeB] using c
  · unfold comeB at c
    by_cases z : m = 0
    · simp [z, ne] at c
    · rw [if_neg (by simp [z, ne])] at c
      by_cases d : m ∈ there
      · exact hS.subset d
      · rw [if_neg d, Bool.and_eq_true, decide_eq_true_eq] at c
        exact (List.mem_filter.mp c.1).1
end Y
namespace Y
open PySem L2 PyProof.Rows
theorem wO_ltTi {ns ms : List Int} {Q : Dt → Md → Prop} : wO (fLtD [.t (ns.map .i), .t (ms.map .i)]) Q = Q (.b (decide (ns < ms))) .c := by
  have a : PySem.W.alike (toP (.t (ns.map .i))) (toP (.t (ms.map .i))) = true := alike_rm ns ms
  have d : ∀ l : List Int, (toP (.t (l.map .i))).depth ≤ 59 := fun l => by
    simp only [toP, toPL_ints, PyData.depth]
    have : ∀ l : List Int, PyData.depthAll (l.map PyData.int) = 0 := fun l => by
      induction l with
      | nil => rfl
      | cons x l ih => rw [List.map_cons, PyData.depthAll, ih]; rfl
    rw [this]; omega
  have l : PySem.W.dataLt (toP (.t (ns.map .i))) (toP (.t (ms.map .i))) = decide (ns < ms) := lt_rm ns ms
  simp only [fLtD, a, d, isNo, l, decide_true, Bool.not_false, Bool.and_self, if_true, wO_some]
theorem flat_cot {a b : List Int} {m : Int} : (cot a b m).flat = true := flat_hs [a, b] [m]
theorem wM_cot {Q : Ev → Prop} {ag : List Ag} {r : Ev} {a b : List Int} {m : Int} : wM (cot a b m, .c) ag r Q = Q r := wM_f (y := (cot a b m, .c)) (by simp only [zfl, flat_cot])
theorem lex3 {a b c x y z : Int} : [a, b, c] < [x, y, z] ↔ a < x ∨ (a = x ∧ (b < y ∨ (b = y ∧ c < z))) := by
  simp only [List.cons_lt_cons_iff, List.not_lt_nil, List.lt_irrefl, and_false, or_false]
/-- the others by twos -/
def twosF (F there : List Int) : Nat := hvN (fun v => decide (v ∈ there)) (F.take (F.idxOf (lmax (there.headD 0) there.tail)))
theorem hvN_snoc (p : Int → Bool) (L : List Int) (a : Int) : hvN p (L ++ [a]) = hvN p L + 2 ^ L.length * (if p a then 1 else 0) := by
  rw [hvN_app, hvN, hvN]
  simp
theorem twos_eq {F there : List Int} (hF : F.Pairwise (· < ·)) (hs : ∀ w ∈ there, w ∈ F) (ne : there ≠ []) : hvN (fun v => decide (v ∈ there) && decide (v ≠ lmax (there.headD 0) there.tail)) F = twosF F there := by
  obtain ⟨x1, x2⟩ := lmax_in ne
  unfold twosF
  generalize lmax (there.headD 0) there.tail = top at *
  have tF := hs _ x1
  have hlt := List.idxOf_lt_length_iff.mpr tF
  have e : F = F.take (F.idxOf top) ++ (top :: F.drop (F.idxOf top + 1)) := by
    have := List.take_append_drop (F.idxOf top) F
    rw [List.drop_eq_getElem_cons hlt, List.getElem_idxOf hlt] at this
    exact this.symm
  have hz : hvN (fun v => decide (v ∈ there) && decide (v ≠ top)) (F.drop (F.idxOf top + 1)) = 0 := hvN_none fun v hv => by
    rw [e] at hF
    have := (List.pairwise_cons.mp (List.pairwise_append.mp hF).2.1).1 v hv
    by_cases q : v ∈ there
    · have := x2 v q; omega
    · simp [q]
  have h1 : hvN (fun v => decide (v ∈ there) && decide (v ≠ top)) (F.take (F.idxOf top)) = hvN (fun v => decide (v ∈ there)) (F.take (F.idxOf top)) := hvN_ext fun v hv => by
    have nd : F.Nodup := hF.imp fun h => by omega
    have := ((mem_take nd).mp hv).2
    have hne : v ≠ top := fun c => by rw [c] at this; omega
    simp [hne]
  conv => lhs; rw [e]
  rw [hvN_app, h1, hvN, hz]
  simp
def keyT (F : List Int) (c : List Int × Int) : List Int := if c.1 = [] then [0, 0, 0] else [lmax (c.1.headD 0) c.1.tail, (twosF F c.1 : Nat), c.2]
theorem keyT_less {F : List Int} (hF : F.Pairwise (· < ·)) (pos : ∀ w ∈ F, 1 ≤ w) (a b : List Int × Int) (ha : Cm F a.1 a.2) (hb : Cm F b.1 b.2) (h : numF F a.1 a.2 < numF F b.1 b.2) : keyT F a < keyT F b := by
  by_cases nb : b.1 = []
  · have r1 := (cm_range hF hb).2.2.mpr nb
    have r2 := (cm_range hF ha).1
    omega
  · obtain ⟨y1, _⟩ := lmax_in nb
    have py := pos _ (hb.sub _ y1)
    by_cases na : a.1 = []
    · unfold keyT
      rw [if_pos na, if_neg nb, lex3]
      left; omega
    · unfold keyT
      rw [if_neg na, if_neg nb, lex3]
      have tri1 : ¬ (lmax (b.1.headD 0) b.1.tail < lmax (a.1.headD 0) a.1.tail) := fun c => by
        have := cm_less hF hb ha (.inr ⟨nb, na, .inl c⟩); omega
      by_cases c1 : lmax (a.1.headD 0) a.1.tail < lmax (b.1.headD 0) b.1.tail
      · exact .inl c1
      · have e1 : lmax (a.1.headD 0) a.1.tail = lmax (b.1.headD 0) b.1.tail := by omega
        refine .inr ⟨e1, ?_⟩
        unfold twosF
        rcases Nat.lt_trichotomy (hvN (fun v => decide (v ∈ a.1)) (F.take (F.idxOf (lmax (a.1.headD 0) a.1.tail)))) (hvN (fun v => decide (v ∈ b.1)) (F.take (F.idxOf (lmax (b.1.headD 0) b.1.tail)))) with c2 | c2 | c2
        · exact .inl (by omega)
        · refine .inr ⟨by omega, ?_⟩
          rcases Int.lt_trichotomy a.2 b.2 with c3 | c3 | c3
          · exact c3
          · exfalso
            have e3 : numF F a.1 a.2 = numF F b.1 b.2 := by
              unfold numF
              rw [if_neg na, if_neg nb, c2, c3, e1]
            omega
          · have := cm_less hF hb ha (.inr ⟨nb, na, .inr ⟨e1.symm, .inr ⟨c2.symm, c3⟩⟩⟩); omega
        · have := cm_less hF hb ha (.inr ⟨nb, na, .inr ⟨e1.symm, .inl c2⟩⟩); omega
end Y
namespace YL
open PySem L2 PyProof.Rows Y
def top (i : Nat) : Stmt := PySem.Challenge.pw_sortdoors_k39_great_ones_by_their_number.main.body.getD i (.Pass ⟨0, 0, 0, 0⟩)
noncomputable def m__law_folded : Ev → So :=
  sSeq (sAsg (mP fList [.e (mSl (.v 0) none (some (mV 1)))]) (tgV 2)) (
  sSeq (sFor (mS sEnum [.e (mSl (.v 0) (some (mV 1)) (some (mK (.i 63))))]) (tgT [(tgV 3), (tgV 4)]) (
  sAsg (mP fAdd [.e (mP fIx [.v 2, .e (mP fMod [.v 3, .v 1])]), .e (mP fMul [.v 4, .e (mP fAdd [.v 3, .e (mK (.i 2))])])]) (tgI 2 (mP fMod [.v 3, .v 1])))) (
  sRetV 2))
@[irreducible] noncomputable def fn__law_folded : Fn := mkFn false 5 m__law_folded
noncomputable def m__law_all_many : Ev → So :=
  sSeq (sAsg (mP fTup [.e (mK (.i 1)), .e (mK (.i 1))]) (tgT [(tgV 1), (tgV 2)])) (
  sSeq (sFor (mS sRng1 [.v 0]) (tgV 3) (
  sPar [1, 2] [mP fAdd [.e (mP fAdd [.v 1, .e (mP fMul [.v 3, .v 2])]), .e (mK (.i 1))], mP fMul [.v 2, .e (mK (.i 2))]])) (
  sRetV 1))
@[irreducible] noncomputable def fn__law_all_many : Fn := mkFn false 4 m__law_all_many
noncomputable def m__law_draw : Ev → So :=
  sSeq (sIf (mTe (mP fGt [.e (mP fIx [.v 0, .e (mK (.i 0))]), .e (mK (.i 0))])) (
  sSeq (sAsg (mP fMod [.e (mP fIx [.v 0, .e (mK (.i 0))]), .v 1]) (tgV 2)) (
  sSeq (sAsg (mP fDiv [.e (mP fIx [.v 0, .e (mK (.i 0))]), .v 1]) (tgI 0 (mK (.i 0)))) (
  sRetV 2))) (sNx)) (
  sSeq (sAsg (mP fAdd [.e (mP fIx [.v 0, .e (mK (.i 2))]), .e (mK (.i 1))]) (tgI 0 (mK (.i 2)))) (
  sSeq (sAsg (mP fMod [.e (mP fPow [.e (mP fAdd [.e (mP fIx [.v 0, .e (mK (.i 1))]), .e (mP fMul [.e (mK (.i 39373)), .e (mP fIx [.v 0, .e (mK (.i 2))])])]), .e (mK (.i 5))]), .e (mK (.i 2147483647))]) (tgV 3)) (
  sSeq (sAsg (mP fMod [.e (mP fMul [.e (mP fAdd [.v 3, .e (mP fIx [.v 0, .e (mK (.i 2))])]), .e (mP fAdd [.e (mP fAdd [.e (mP fMod [.v 3, .e (mK (.i 40009))]), .e (mK (.i 7))]), .e (mP fIx [.v 0, .e (mK (.i 2))])])]), .e (mK (.i 2147483629))]) (tgV 4)) (
  sSeq (sAsg (mP fMod [.e (mP fAdd [.e (mP fAdd [.e (mP fDiv [.e (mP fIx [.v 0, .e (mK (.i 1))]), .e (mK (.i 2147483647))]), .e (mP fMul [.v 4, .e (mK (.i 40009))])]), .e (mP fIx [.v 0, .e (mK (.i 2))])]), .e (mK (.i 2305843009213693951))]) (tgV 5)) (
  sRet (mP fMod [.e (mP fDiv [.e (mP fMod [.e (mP fAdd [.e (mP fAdd [.e (mP fMul [.v 4, .e (mK (.i 48271))]), .e (mP fMul [.v 5, .e (mK (.i 39373))])]), .v 3]), .e (mK (.i 2305843009213693921))]), .e (mK (.i 64))]), .v 1]))))))
@[irreducible] noncomputable def fn__law_draw : Fn := mkFn true 6 m__law_draw
noncomputable def m__law_cottage : Ev → So :=
  sSeq (sAsg (mP fTup [.e (mP fIx [.e (mP fLst [.e (mK (.i 2)), .e (mK (.i 2)), .e (mK (.i 5)), .e (mK (.i 1)), .e (mK (.i 3))]), .e (mCI fn__law_draw 0 [.e (mK (.i 5))])]), .e (mP fMul [.e (mCI fn__law_draw 0 [.e (mP fAdd [.e (mP fLen [.v 1]), .e (mK (.i 1))])]), .e (mP fDiv [.e (mCI fn__law_draw 0 [.e (mK (.i 3))]), .e (mK (.i 2))])])]) (tgT [(tgV 2), (tgV 3)])) (
  sSeq (sAsg (mP fAdd [.e (mSl (.v 1) none (some (mV 3))), .e (mLc false [9] (mS sSq [.e (mSl (.v 1) (some (mV 3)) none)]) (tgV 9) (mTe (mP fEq [.e (mCI fn__law_draw 0 [.v 2]), .e (mK (.i 0))])) (mV 9))]) (tgV 4)) (
  sSeq (sAsg (mLc false [9] (mS sSq [.v 1]) (tgV 9) (mTe (mP (fInA true) [.v 9, .v 4])) (mV 9)) (tgV 5)) (
  sSeq (sAsg (mP fAdd [.e (mP fAdd [.e (mP fAdd [.e (mP fAdd [.e (mP fLst [.e (mK (.i 0))]), .e (mP fMul [.e (mSl (.v 4) (some (mP fNeg [.e (mK (.i 1))])) none), .e (mK (.i 2))])]), .e (mSl (.v 4) none (some (mK (.i 1))))]), .e (mSl (.v 5) none (some (mK (.i 1))))]), .e (mSl (.v 5) (some (mP fNeg [.e (mK (.i 1))])) none)]) (tgV 6)) (
  sSeq (sAsg (mP fAdd [.v 6, .e (mSl (.v 1) (some (mV 3)) (some (mP fAdd [.v 3, .e (mK (.i 1))])))]) (tgV 6)) (
  sSeq (sFor (mS sRng1 [.e (mP fMul [.e (mK (.i 4)), .e (mP fInt [.e (mP fNe [.v 1, .e (mP fLst [])])])])]) (tgV 7) (
  sAppG 6 (mP fIx [.v 1, .e (mCI fn__law_draw 0 [.e (mP fLen [.v 1])])]))) (
  sSeq (sAsg (mP fIx [.v 6, .e (mCI fn__law_draw 0 [.e (mP fLen [.v 6])])]) (tgV 8)) (
  sSeq (sAsg (mIf (mAnd (mTe (mP fEq [.e (mCI fn__law_draw 0 [.e (mK (.i 12))]), .e (mK (.i 0))])) (mTe (mP fLt [.v 8, .e (mP fPow [.e (mK (.i 10)), .e (mK (.i 12))])]))) (mP fAdd [.v 8, .e (mK (.i 1))]) (mV 8)) (tgV 8)) (
  sRet (mP fTup [.e (mP fTup [.e (mP fTuple [.v 5]), .e (mP fTuple [.v 4])]), .e (mP fTup [.v 8])])))))))))
@[irreducible] noncomputable def fn__law_cottage : Fn := mkFn true 10 m__law_cottage
noncomputable def m__law_is_come : Ev → So :=
  sSeq (sAsg (mP fTup [.e (mP fIx [.e (mP fIx [.v 0, .e (mK (.i 0))]), .e (mK (.i 0))]), .e (mP fIx [.e (mP fIx [.v 0, .e (mK (.i 0))]), .e (mK (.i 1))]), .e (mP fIx [.e (mP fIx [.v 0, .e (mK (.i 1))]), .e (mK (.i 0))])]) (tgT [(tgV 1), (tgV 2), (tgV 3)])) (
  sSeq (sIf (mTe (mP fEq [.v 2, .e (mP fTup [])])) (
  sRet (mP fEq [.v 3, .e (mK (.i 0))])) (sNx)) (
  sSeq (sIf (mTe (mP (fInA false) [.v 3, .v 2])) (
  sRet (mOrV (mP fEq [.v 3, .e (mP fMax1 [.v 2])]) (mP fAny [.e (mLc false [4] (mS sSq [.v 1]) (tgV 4) (mYes) (mP fLt [.v 4, .v 3]))]))) (sNx)) (
  sRet (mAndV (mP (fInA false) [.v 3, .v 1]) (mP fLt [.v 3, .e (mP fMax1 [.v 2])])))))
@[irreducible] noncomputable def fn__law_is_come : Fn := mkFn false 5 m__law_is_come
noncomputable def m__law_number_due : Ev → So :=
  sSeq (sAsg (mP fTup [.e (mP fSorted [.e (mP fAdd [.e (mP fIx [.e (mP fIx [.v 0, .e (mK (.i 0))]), .e (mK (.i 0))]), .e (mP fIx [.e (mP fIx [.v 0, .e (mK (.i 0))]), .e (mK (.i 1))])])]), .e (mP fIx [.e (mP fIx [.v 0, .e (mK (.i 0))]), .e (mK (.i 1))])]) (tgT [(tgV 1), (tgV 2)])) (
  sSeq (sIf (mTe (mP fEq [.v 2, .e (mP fTup [])])) (
  sRet (mK (.i 0))) (sNx)) (
  sSeq (sAsg (mP fTup [.e (mMt fIdx (.v 1) [.e (mP fMax1 [.v 2])]), .e (mK (.i 1)), .e (mK (.i 1)), .e (mK (.i 0))]) (tgT [(tgV 3), (tgV 4), (tgV 5), (tgV 6)])) (
  sSeq (sFor (mS sRng1 [.v 3]) (tgV 7) (
  sSeq (sAsg (mP fAdd [.e (mP fAdd [.v 4, .e (mP fMul [.v 7, .v 5])]), .e (mK (.i 1))]) (tgV 4)) (
  sPar [6, 5] [mP fAdd [.v 6, .e (mP fMul [.v 5, .e (mP fInt [.e (mP (fInA false) [.e (mP fIx [.v 1, .v 7]), .v 2])])])], mP fMul [.v 5, .e (mK (.i 2))]]))) (
  sSeq (sPar [4, 8] [mP fAdd [.v 4, .e (mP fMul [.e (mP fAdd [.v 3, .e (mK (.i 1))]), .v 6])], mV 6]) (
  sSeq (sWh (mTe (mP fGt [.v 8, .e (mK (.i 0))])) (
  sSeq (sAsg (mP fDiv [.v 8, .e (mK (.i 2))]) (tgV 8)) (
  sAsg (mP fSub [.v 4, .v 8]) (tgV 4)))) (
  sSeq (sAsg (mP fIx [.e (mLc false [7] (mS sRng1 [.e (mP fAdd [.v 3, .e (mK (.i 1))])]) (tgV 7) (mOr (mTe (mP fEq [.v 7, .v 3])) (mTe (mP (fInA true) [.e (mP fIx [.v 1, .v 7]), .v 2]))) (mV 7)), .e (mK (.i 0))]) (tgV 9)) (
  sRet (mP fSub [.e (mP fAdd [.v 4, .e (mMt fIdx (.v 1) [.e (mP fIx [.e (mP fIx [.v 0, .e (mK (.i 1))]), .e (mK (.i 0))])])]), .v 9]))))))))
@[irreducible] noncomputable def fn__law_number_due : Fn := mkFn false 10 m__law_number_due
noncomputable def m__law_same (g : Fn) : Ev → So :=
  sSeq (sIf (mTe (mP (fIsi ["list", "tuple"]) [.v 1])) (
  sSeq (sIf (mOr (mTe (mP fNe [.e (mP (fIsi ["list"]) [.v 0]), .e (mP (fIsi ["list"]) [.v 1])])) (mTe (mP fNe [.e (mP (fIsi ["tuple"]) [.v 0]), .e (mP (fIsi ["tuple"]) [.v 1])]))) (
  sRet (mK (.b false))) (sNx)) (
  sRet (mAndV (mP fEq [.e (mP fLen [.v 0]), .e (mP fLen [.v 1])]) (mP fAll [.e (mLc false [2, 3] (mS sZip [.v 0, .v 1]) (tgT [(tgV 2), (tgV 3)]) (mYes) (mC g [.v 2, .v 3]))])))) (sNx)) (
  sSeq (sIf (mOr (mTe (mP fIs [.v 1, .e (mK .n)])) (mTe (mP (fIsi ["str", "bool"]) [.v 1]))) (
  sRet (mAndV (mP fEq [.e (mP (fIsi ["bool"]) [.v 0]), .e (mP (fIsi ["bool"]) [.v 1])]) (mP fEq [.v 0, .v 1]))) (sNx)) (
  sRet (mAndV (mP (fIsi ["int"]) [.v 0]) (mAndV (mNotV (mP (fIsi ["bool"]) [.v 0])) (mP fEq [.v 0, .v 1])))))
noncomputable def fr__law_same : Nat → Fn
  | 0 => fnNo
  | d + 1 => mkFn false 4 (m__law_same (fr__law_same d))
@[irreducible] noncomputable def fn__law_same (d : Nat) : Fn := fr__law_same d
theorem fn__law_same_0 : fn__law_same 0 = fnNo := by unfold fn__law_same; rfl
theorem fn__law_same_s (d : Nat) : fn__law_same (d + 1) = mkFn false 4 (m__law_same (fn__law_same d)) := by unfold fn__law_same; rfl
noncomputable def m__law_standing_key : Ev → So :=
  sSeq (sPar [1, 2] [mP fSorted [.e (mP fAdd [.e (mP fIx [.e (mP fIx [.v 0, .e (mK (.i 0))]), .e (mK (.i 0))]), .e (mP fIx [.e (mP fIx [.v 0, .e (mK (.i 0))]), .e (mK (.i 1))])])], mP fIx [.e (mP fIx [.v 0, .e (mK (.i 0))]), .e (mK (.i 1))]]) (
  sSeq (sIf (mTe (mP fEq [.v 2, .e (mP fTup [])])) (
  sRet (mP fTup [.e (mK (.i 0)), .e (mK (.i 0)), .e (mK (.i 0))])) (sNx)) (
  sSeq (sAsg (mP fTup [.e (mK (.i 1)), .e (mK (.i 0))]) (tgT [(tgV 3), (tgV 4)])) (
  sSeq (sFor (mS sSq [.v 1]) (tgV 5) (
  sPar [4, 3] [mP fAdd [.v 4, .e (mP fMul [.v 3, .e (mP fInt [.e (mAndV (mP (fInA false) [.v 5, .v 2]) (mP fNe [.v 5, .e (mP fMax1 [.v 2])]))])])], mP fMul [.v 3, .e (mK (.i 2))]])) (
  sRet (mP fTup [.e (mP fMax1 [.v 2]), .v 4, .e (mP fIx [.e (mP fIx [.v 0, .e (mK (.i 1))]), .e (mK (.i 0))])])))))
@[irreducible] noncomputable def fn__law_standing_key : Fn := mkFn false 6 m__law_standing_key
noncomputable def m_is_come : Ev → So :=
  sSeq (sAsg (mV 0) (tgT [(tgT [(tgV 1), (tgV 2)]), (tgT [(tgV 3)])])) (
  sSeq (sIf (mOr (mTe (mP fEq [.e (mP fLen [.v 2]), .e (mK (.i 0))])) (mTe (mP fEq [.v 3, .e (mK (.i 0))]))) (
  sRet (mCh fEq fEq (.e (mP fLen [.v 2])) (.v 3) (.e (mK (.i 0))))) (sNx)) (
  sSeq (sIf (mTe (mP (fInA false) [.v 3, .v 2])) (
  sRet (mOrV (mP fEq [.v 3, .e (mP fMax1 [.v 2])]) (mP fAny [.e (mLc false [4] (mS sSq [.v 1]) (tgV 4) (mYes) (mP fLt [.v 4, .v 3]))]))) (sNx)) (
  sRet (mAndV (mP (fInA false) [.v 3, .v 1]) (mP fLt [.v 3, .e (mP fMax1 [.v 2])])))))
@[irreducible] noncomputable def fn_is_come : Fn := mkFn false 5 m_is_come
noncomputable def m_look_one : Ev → So :=
  sIf (mTe (mP fNe [.e (mP fLen [.e (mP fIx [.v 0, .e (mK (.i 1))])]), .e (mK (.i 1))])) (
  sNo) (sNx)
@[irreducible] noncomputable def fn_look_one : Fn := mkFn false 1 m_look_one
noncomputable def m_came : Ev → So :=
  sSeq (sExpr (mC fn_look_one [.v 0])) (
  sRet (mC fn_is_come [.v 0]))
@[irreducible] noncomputable def fn_came : Fn := mkFn false 1 m_came
noncomputable def m_two_to : Ev → So :=
  sSeq (sAsg (mK (.i 1)) (tgV 1)) (
  sSeq (sFor (mS sRng1 [.v 0]) (tgV 2) (
  sAug 1 cMul (· * ·) (mK (.i 2)))) (
  sRetV 1))
@[irreducible] noncomputable def fn_two_to : Fn := mkFn false 3 m_two_to
noncomputable def m_ahead_many : Ev → So :=
  sRet (mP fAdd [.e (mP fAdd [.e (mK (.i 3)), .v 0]), .e (mP fMul [.e (mP fSub [.v 0, .e (mK (.i 2))]), .e (mC fn_two_to [.v 0])])])
@[irreducible] noncomputable def fn_ahead_many : Fn := mkFn false 1 m_ahead_many
noncomputable def m_came_many : Ev → So :=
  sRet (mC fn_ahead_many [.v 0])
@[irreducible] noncomputable def fn_came_many : Fn := mkFn false 1 m_came_many
noncomputable def m_ones_in : Ev → So :=
  sSeq (sAsg (mK (.i 0)) (tgV 1)) (
  sSeq (sWh (mTe (mP fGt [.v 0, .e (mK (.i 0))])) (
  sSeq (sAug 1 cYes (· + ·) (mP fMod [.v 0, .e (mK (.i 2))])) (
  sAug 0 cDiv (· / ·) (mK (.i 2))))) (
  sRetV 1))
@[irreducible] noncomputable def fn_ones_in : Fn := mkFn false 2 m_ones_in
noncomputable def m_lots_ahead : Ev → So :=
  sRet (mP fAdd [.e (mP fMul [.v 0, .v 1]), .e (mC fn_ones_in [.v 1])])
@[irreducible] noncomputable def fn_lots_ahead : Fn := mkFn false 2 m_lots_ahead
noncomputable def m_lowest_in : Ev → So :=
  sSeq (sAsg (mK (.i 0)) (tgV 1)) (
  sSeq (sWh (mTe (mP fEq [.e (mP fMod [.v 0, .e (mK (.i 2))]), .e (mK (.i 1))])) (
  sSeq (sAug 0 cDiv (· / ·) (mK (.i 2))) (
  sAug 1 cYes (· + ·) (mK (.i 1))))) (
  sRetV 1))
@[irreducible] noncomputable def fn_lowest_in : Fn := mkFn false 2 m_lowest_in
noncomputable def m_came_at : Ev → So :=
  sSeq (sAsg (mP fSorted [.v 0]) (tgV 2)) (
  sSeq (sIf (mNot (mTe (mCh fLe fLt (.e (mK (.i 0))) (.v 1) (.e (mC fn_came_many [.e (mP fLen [.v 2])]))))) (
  sNo) (sNx)) (
  sSeq (sIf (mTe (mP fEq [.v 1, .e (mK (.i 0))])) (
  sRet (mP fTup [.e (mP fTup [.e (mP fTuple [.v 2]), .e (mP fTup [])]), .e (mP fTup [.e (mK (.i 0))])])) (sNx)) (
  sSeq (sAsg (mFit (mK (.i 0)) (mP fLen [.v 2]) (mP fLe [.e (mC fn_ahead_many [.v 10]), .v 1])) (tgV 3)) (
  sSeq (sAsg (mP fSub [.v 1, .e (mC fn_ahead_many [.v 3])]) (tgV 4)) (
  sSeq (sAsg (mFit (mK (.i 0)) (mC fn_two_to [.v 3]) (mP fLe [.e (mC fn_lots_ahead [.v 3, .v 10]), .v 4])) (tgV 5)) (
  sSeq (sAug 4 cYes (· - ·) (mC fn_lots_ahead [.v 3, .v 5])) (
  sSeq (sAug 5 cYes (· + ·) (mC fn_two_to [.v 3])) (
  sSeq (sAsg (mLc false [8, 9] (mS sEnum [.v 2]) (tgT [(tgV 8), (tgV 9)]) (mTe (mP fEq [.e (mP fMod [.e (mP fDiv [.v 5, .e (mC fn_two_to [.v 8])]), .e (mK (.i 2))]), .e (mK (.i 1))])) (mV 9)) (tgV 6)) (
  sSeq (sAsg (mLc false [9] (mS sSq [.v 2]) (tgV 9) (mTe (mP (fInA true) [.v 9, .v 6])) (mV 9)) (tgV 7)) (
  sRet (mP fTup [.e (mP fTup [.e (mP fTuple [.v 7]), .e (mP fTuple [.v 6])]), .e (mP fTup [.e (mP fIx [.v 2, .e (mP fAdd [.e (mC fn_lowest_in [.e (mP fSub [.v 5, .e (mC fn_two_to [.v 3])])]), .v 4])])])])))))))))))
@[irreducible] noncomputable def fn_came_at : Fn := mkFn false 10 m_came_at
noncomputable def m_came_number : Ev → So :=
  sSeq (sExpr (mC fn_look_one [.v 0])) (
  sSeq (sIf (mNot (mTe (mC fn_is_come [.v 0]))) (
  sNo) (sNx)) (
  sSeq (sAsg (mV 0) (tgT [(tgT [(tgV 1), (tgV 2)]), (tgT [(tgV 3)])])) (
  sSeq (sIf (mTe (mP fEq [.e (mP fLen [.v 2]), .e (mK (.i 0))])) (
  sRet (mK (.i 0))) (sNx)) (
  sSeq (sAsg (mP fSorted [.e (mP fAdd [.e (mP fList [.v 1]), .e (mP fList [.v 2])])]) (tgV 4)) (
  sSeq (sAsg (mMt fIdx (.v 4) [.e (mP fMax1 [.v 2])]) (tgV 5)) (
  sSeq (sAsg (mP fSub [.e (mP fSum [.e (mLc false [7] (mS sSq [.v 2]) (tgV 7) (mYes) (mC fn_two_to [.e (mMt fIdx (.v 4) [.v 7])]))]), .e (mC fn_two_to [.v 5])]) (tgV 6)) (
  sRet (mP fSub [.e (mP fAdd [.e (mP fAdd [.e (mC fn_ahead_many [.v 5]), .e (mC fn_lots_ahead [.v 5, .v 6])]), .e (mMt fIdx (.v 4) [.v 3])]), .e (mC fn_lowest_in [.v 6])]))))))))
@[irreducible] noncomputable def fn_came_number : Fn := mkFn false 8 m_came_number
noncomputable def m__law_number_right : Ev → So :=
  sSeq (sAsg (mC fn_came_at [.v 0, .v 1]) (tgV 3)) (
  sSeq (sIf (mOr (mTe (mP fNe [.e (mP fSorted [.e (mP fAdd [.e (mP fIx [.e (mP fIx [.v 3, .e (mK (.i 0))]), .e (mK (.i 0))]), .e (mP fIx [.e (mP fIx [.v 3, .e (mK (.i 0))]), .e (mK (.i 1))])])]), .v 0])) (mOr (mNot (mTe (mC fn__law_is_come [.v 3]))) (mTe (mP fNot [.e (mC fn_came [.v 3]), .e (mK (.b true))])))) (
  sRet (mK (.b false))) (sNx)) (
  sSeq (sIf (mNot (mTe (mC (fn__law_same 8) [.e (mP fLst [.e (mC fn_came_number [.v 3]), .e (mC fn__law_number_due [.v 3])]), .e (mP fLst [.v 1, .v 1])]))) (
  sRet (mK (.b false))) (sNx)) (
  sSeq (sIf (mAnd (mTe (mP fLt [.e (mP fAdd [.v 1, .e (mK (.i 1))]), .v 2])) (mNot (mTe (mP fLtD [.e (mC fn__law_standing_key [.v 3]), .e (mC fn__law_standing_key [.e (mC fn_came_at [.v 0, .e (mP fAdd [.v 1, .e (mK (.i 1))])])])])))) (
  sRet (mK (.b false))) (sNx)) (
  sRet (mK (.b true))))))
@[irreducible] noncomputable def fn__law_number_right : Fn := mkFn false 4 m__law_number_right
noncomputable def m__law_weights : Ev → So :=
  sSeq (sPar [2, 3] [mP fIx [.e (mP fLst [.e (mK (.i 1)), .e (mK (.i 1)), .e (mK (.i 3)), .e (mK (.i 1000)), .e (mP fPow [.e (mK (.i 10)), .e (mK (.i 9))])]), .e (mCI fn__law_draw 0 [.e (mK (.i 5))])], mP fLst []]) (
  sSeq (sAsg (mP fIx [.e (mP fLst [.e (mK (.i 0)), .e (mK (.i 0)), .e (mCI fn__law_draw 0 [.e (mK (.i 50))]), .e (mP fSub [.e (mP fPow [.e (mK (.i 10)), .e (mK (.i 12))]), .e (mP fMul [.e (mK (.i 42)), .v 2])])]), .e (mCI fn__law_draw 0 [.e (mK (.i 4))])]) (tgV 4)) (
  sSeq (sFor (mS sRng1 [.v 1]) (tgV 5) (
  sSeq (sAsg (mP fAdd [.e (mP fAdd [.v 4, .e (mK (.i 1))]), .e (mCI fn__law_draw 0 [.v 2])]) (tgV 4)) (
  sAppG 3 (mV 4)))) (
  sRetV 3)))
@[irreducible] noncomputable def fn__law_weights : Fn := mkFn true 6 m__law_weights
noncomputable def m__law_right : Ev → So :=
  sSeq (sAsg (mCI fn__law_weights 0 [.e (mP fAdd [.e (mK (.i 7)), .e (mCI fn__law_draw 0 [.e (mK (.i 34))])])]) (tgV 1)) (
  sSeq (sAsg (mC fn__law_all_many [.e (mP fLen [.v 1])]) (tgV 2)) (
  sSeq (sIf (mTe (mP fAny [.e (mLc false [9] (mS sRng1 [.e (mP fAdd [.e (mP fLen [.v 1]), .e (mK (.i 1))])]) (tgV 9) (mYes) (mNotV (mC (fn__law_same 8) [.e (mC fn_came_many [.v 9]), .e (mC fn__law_all_many [.v 9])])))])) (
  sRet (mK (.b false))) (sNx)) (
  sSeq (sAsg (mP fLst [.e (mK (.i 0)), .e (mK (.i 1)), .e (mP fSub [.v 2, .e (mK (.i 1))]), .e (mP fSub [.v 2, .e (mK (.i 2))])]) (tgV 3)) (
  sSeq (sFor (mS sRng1 [.e (mK (.i 8))]) (tgV 4) (
  sSeq (sAsg (mCI fn__law_draw 0 [.e (mP fMin2 [.v 2, .e (mK (.i 200))])]) (tgV 5)) (
  sSeq (sAsg (mP fMod [.e (mP fAdd [.e (mP fMul [.e (mCI fn__law_draw 0 [.e (mP fPow [.e (mK (.i 10)), .e (mK (.i 9))])]), .e (mP fPow [.e (mK (.i 10)), .e (mK (.i 6))])]), .e (mCI fn__law_draw 0 [.e (mP fPow [.e (mK (.i 10)), .e (mK (.i 6))])])]), .v 2]) (tgV 6)) (
  sAsg (mP fAdd [.v 3, .e (mP fLst [.v 5, .v 6, .e (mP fSub [.e (mP fSub [.v 2, .e (mK (.i 1))]), .v 6])])]) (tgV 3))))) (
  sSeq (sIf (mNot (mTe (mP fAll [.e (mLc false [8] (mS sSq [.v 3]) (tgV 8) (mYes) (mC fn__law_number_right [.v 1, .v 8, .v 2]))]))) (
  sRet (mK (.b false))) (sNx)) (
  sSeq (sFor (mS sRng1 [.e (mK (.i 12))]) (tgV 4) (
  sSeq (sAsg (mCI fn__law_cottage 0 [.v 1]) (tgV 7)) (
  sIf (mTe (mC fn__law_is_come [.v 7])) (
  sSeq (sAsg (mC fn_came_number [.v 7]) (tgV 8)) (
  sSeq (sIf (mOr (mNot (mTe (mC (fn__law_same 8) [.v 8, .e (mC fn__law_number_due [.v 7])]))) (mNot (mTe (mCh fLe fLt (.e (mK (.i 0))) (.v 8) (.v 2))))) (
  sRet (mK (.b false))) (sNx)) (
  sIf (mNot (mTe (mC (fn__law_same 8) [.e (mC fn_came_at [.v 1, .v 8]), .v 7]))) (
  sRet (mK (.b false))) (sNx)))) (sNx)))) (
  sRet (mK (.b true)))))))))
@[irreducible] noncomputable def fn__law_right : Fn := mkFn true 10 m__law_right
noncomputable def m__law_tape : Ev → So :=
  sSeq (sAsg (mIf (mTe (mP fLt [.v 1, .e (mP fLen [.v 0])])) (mP fIx [.v 0, .v 1]) (mK (.i 0))) (tgV 2)) (
  sRet (mP fLst [.e (mP fMul [.e (mP fAbs [.v 2]), .e (mP fInt [.e (mP fGe [.e (mP fAbs [.v 2]), .e (mP fPow [.e (mK (.i 10)), .e (mK (.i 18))])])])]), .e (mP fAdd [.e (mP fAdd [.e (mP fMod [.v 2, .e (mK (.i 2305843009213693951))]), .e (mP fMul [.e (mK (.i 39373)), .v 1])]), .e (mK (.i 17))]), .e (mK (.i 0))]))
@[irreducible] noncomputable def fn__law_tape : Fn := mkFn false 3 m__law_tape
noncomputable def m_law : Ev → So :=
  sSeq (sAsg (mC fn__law_folded [.v 0, .e (mK (.i 2))]) (tgV 1)) (
  sRet (mP fAll [.e (mLc false [2] (mS sRng1 [.e (mP fMax2 [.e (mK (.i 1)), .e (mP fLen [.v 1])])]) (tgV 2) (mYes) (mCM fn__law_right (mC fn__law_tape [.v 1, .v 2]) []))]))
@[irreducible] noncomputable def fn_law : Fn := mkFn false 3 m_law
structure Txt (K : PySem.W.Frag) (mg : Str → Option Value) (base : Heap) where
  c_lam : Addr
  P_lam : Addr
  t_lam : PySem.W.tabIn K "came_at" = some (c_lam, P_lam)
  t_tail : PySem.W.tabIn K "tail" = none
  tbs : LamX.TabB base mg c_lam P_lam
  a__law_folded : Addr
  d__law_folded : FuncData
  F__law_folded : Fun K "_law_folded" "_law_folded" (top 23) a__law_folded d__law_folded
  b__law_folded : Binds K d__law_folded ["_law_script", "_law_many"] []
  m__law_folded : mg "_law_folded" = some (.ref a__law_folded)
  a__law_all_many : Addr
  d__law_all_many : FuncData
  F__law_all_many : Fun K "_law_all_many" "_law_all_many" (top 30) a__law_all_many d__law_all_many
  b__law_all_many : Binds K d__law_all_many ["_law_many"] []
  m__law_all_many : mg "_law_all_many" = some (.ref a__law_all_many)
  a__law_draw : Addr
  d__law_draw : FuncData
  F__law_draw : Fun K "_law_draw" "_law_draw" (top 22) a__law_draw d__law_draw
  b__law_draw : Binds K d__law_draw ["_law_tape_here", "_law_many"] []
  m__law_draw : mg "_law_draw" = some (.ref a__law_draw)
  a__law_cottage : Addr
  d__law_cottage : FuncData
  F__law_cottage : Fun K "_law_cottage" "_law_cottage" (top 26) a__law_cottage d__law_cottage
  b__law_cottage : Binds K d__law_cottage ["_law_tape_here", "_law_row"] []
  m__law_cottage : mg "_law_cottage" = some (.ref a__law_cottage)
  a__law_is_come : Addr
  d__law_is_come : FuncData
  F__law_is_come : Fun K "_law_is_come" "_law_is_come" (top 27) a__law_is_come d__law_is_come
  b__law_is_come : Binds K d__law_is_come ["_law_cottage_here"] []
  m__law_is_come : mg "_law_is_come" = some (.ref a__law_is_come)
  a__law_number_due : Addr
  d__law_number_due : FuncData
  F__law_number_due : Fun K "_law_number_due" "_law_number_due" (top 29) a__law_number_due d__law_number_due
  b__law_number_due : Binds K d__law_number_due ["_law_cottage_here"] []
  m__law_number_due : mg "_law_number_due" = some (.ref a__law_number_due)
  a__law_same : Addr
  d__law_same : FuncData
  F__law_same : Fun K "_law_same" "_law_same" (top 24) a__law_same d__law_same
  b__law_same : Binds K d__law_same ["_law_found", "_law_due"] []
  m__law_same : mg "_law_same" = some (.ref a__law_same)
  a__law_standing_key : Addr
  d__law_standing_key : FuncData
  F__law_standing_key : Fun K "_law_standing_key" "_law_standing_key" (top 28) a__law_standing_key d__law_standing_key
  b__law_standing_key : Binds K d__law_standing_key ["_law_cottage_here"] []
  m__law_standing_key : mg "_law_standing_key" = some (.ref a__law_standing_key)
  a_is_come : Addr
  d_is_come : FuncData
  F_is_come : Fun K "is_come" "is_come" (top 11) a_is_come d_is_come
  b_is_come : Binds K d_is_come ["house"] []
  m_is_come : mg "is_come" = some (.ref a_is_come)
  a_look_one : Addr
  d_look_one : FuncData
  F_look_one : Fun K "look_one" "look_one" (top 9) a_look_one d_look_one
  b_look_one : Binds K d_look_one ["house"] []
  m_look_one : mg "look_one" = some (.ref a_look_one)
  a_came : Addr
  d_came : FuncData
  F_came : Fun K "came" "came" (top 12) a_came d_came
  b_came : Binds K d_came ["house"] []
  m_came : mg "came" = some (.ref a_came)
  a_two_to : Addr
  d_two_to : FuncData
  F_two_to : Fun K "two_to" "two_to" (top 5) a_two_to d_two_to
  b_two_to : Binds K d_two_to ["number"] []
  m_two_to : mg "two_to" = some (.ref a_two_to)
  a_ahead_many : Addr
  d_ahead_many : FuncData
  F_ahead_many : Fun K "ahead_many" "ahead_many" (top 13) a_ahead_many d_ahead_many
  b_ahead_many : Binds K d_ahead_many ["rank"] []
  m_ahead_many : mg "ahead_many" = some (.ref a_ahead_many)
  a_came_many : Addr
  d_came_many : FuncData
  F_came_many : Fun K "came_many" "came_many" (top 14) a_came_many d_came_many
  b_came_many : Binds K d_came_many ["many"] []
  m_came_many : mg "came_many" = some (.ref a_came_many)
  a_greatest_fit : Addr
  d_greatest_fit : FuncData
  F_greatest_fit : Fun K "greatest_fit" "greatest_fit" (top 17) a_greatest_fit d_greatest_fit
  b_greatest_fit : Binds K d_greatest_fit ["low", "high", "fits"] []
  m_greatest_fit : mg "greatest_fit" = some (.ref a_greatest_fit)
  a_ones_in : Addr
  d_ones_in : FuncData
  F_ones_in : Fun K "ones_in" "ones_in" (top 7) a_ones_in d_ones_in
  b_ones_in : Binds K d_ones_in ["number"] []
  m_ones_in : mg "ones_in" = some (.ref a_ones_in)
  a_lots_ahead : Addr
  d_lots_ahead : FuncData
  F_lots_ahead : Fun K "lots_ahead" "lots_ahead" (top 15) a_lots_ahead d_lots_ahead
  b_lots_ahead : Binds K d_lots_ahead ["rank", "lot"] []
  m_lots_ahead : mg "lots_ahead" = some (.ref a_lots_ahead)
  a_lowest_in : Addr
  d_lowest_in : FuncData
  F_lowest_in : Fun K "lowest_in" "lowest_in" (top 16) a_lowest_in d_lowest_in
  b_lowest_in : Binds K d_lowest_in ["lot"] []
  m_lowest_in : mg "lowest_in" = some (.ref a_lowest_in)
  a_came_at : Addr
  d_came_at : FuncData
  F_came_at : Fun K "came_at" "came_at" (top 18) a_came_at d_came_at
  b_came_at : Binds K d_came_at ["folk", "number"] []
  m_came_at : mg "came_at" = some (.ref a_came_at)
  fv_came_at : PySem.W.nsIn K mainGlobals "came_at" = some (some (.ref a_came_at))
  a_came_number : Addr
  d_came_number : FuncData
  F_came_number : Fun K "came_number" "came_number" (top 19) a_came_number d_came_number
  b_came_number : Binds K d_came_number ["house"] []
  m_came_number : mg "came_number" = some (.ref a_came_number)
  a__law_number_right : Addr
  d__law_number_right : FuncData
  F__law_number_right : Fun K "_law_number_right" "_law_number_right" (top 31) a__law_number_right d__law_number_right
  b__law_number_right : Binds K d__law_number_right ["_law_row", "_law_number", "_law_whole"] []
  m__law_number_right : mg "_law_number_right" = some (.ref a__law_number_right)
  a__law_weights : Addr
  d__law_weights : FuncData
  F__law_weights : Fun K "_law_weights" "_law_weights" (top 25) a__law_weights d__law_weights
  b__law_weights : Binds K d__law_weights ["_law_tape_here", "_law_many"] []
  m__law_weights : mg "_law_weights" = some (.ref a__law_weights)
  a__law_right : Addr
  d__law_right : FuncData
  F__law_right : Fun K "_law_right" "_law_right" (top 32) a__law_right d__law_right
  b__law_right : Binds K d__law_right ["_law_tape_here"] []
  m__law_right : mg "_law_right" = some (.ref a__law_right)
  a__law_tape : Addr
  d__law_tape : FuncData
  F__law_tape : Fun K "_law_tape" "_law_tape" (top 21) a__law_tape d__law_tape
  b__law_tape : Binds K d__law_tape ["_law_script", "_law_k"] []
  m__law_tape : mg "_law_tape" = some (.ref a__law_tape)
  a_law : Addr
  d_law : FuncData
  F_law : Fun K "law" "law" (top 33) a_law d_law
  b_law : Binds K d_law ["_law_script"] []
  m_law : mg "law" = some (.ref a_law)
  z_abs : mg "abs" = none
  z_all : mg "all" = none
  z_any : mg "any" = none
  z_bool : mg "bool" = none
  z_enumerate : mg "enumerate" = none
  z_int : mg "int" = none
  z_isinstance : mg "isinstance" = none
  z_len : mg "len" = none
  z_list : mg "list" = none
  z_max : mg "max" = none
  z_min : mg "min" = none
  z_range : mg "range" = none
  z_sorted : mg "sorted" = none
  z_str : mg "str" = none
  z_sum : mg "sum" = none
  z_tuple : mg "tuple" = none
  z_zip : mg "zip" = none
section
variable {P : Program} {w : World} {K : PySem.W.Frag} {mg : Str → Option Value} {base : Heap}
abbrev N__law_folded : List Str := ["_law_script", "_law_many", "_law_cells", "_law_k", "_law_cell"]
theorem sc__law_folded : FnScope N__law_folded ["_law_script", "_law_many"] (defScope (top 23)) := ⟨rfl, rfl, rfl, by decide +kernel, rfl, by decide +kernel, by decide +kernel⟩
theorem ok__law_folded (T : Txt K mg base) : Y.FnOk P w K mg base (L2.CX P w) 1 T.a__law_folded T.d__law_folded ["_law_script", "_law_many"] (spY K (clK K) false 2 fn__law_folded) := by
  unfold fn__law_folded
  exact fn_ok T.F__law_folded sc__law_folded rfl rfl (by decide) fun cdv A outer s H E hr => show JB _ _ _ _ _ m__law_folded from
      jb_c (js_set (i := 2) sc__law_folded.nd rfl (by first | exact Or.inl rfl | exact Or.inr rfl) (by decide) (je_callT call_list_of pr_list (by rfl) T.z_list (by rfl) (ja_c (jo_e (je_sl (jo_v 0 (pv 0)) .none (.some (je_v 1 (pv 1))))) (ja_n)))) (
      jb_c (js_for (passes_of rfl) rfl (ji_enum (by rfl) T.z_enumerate (jo_e (je_sl (jo_v 0 (pv 0)) (.some (je_v 1 (pv 1))) (.some (je_int))))) (pg_tupA rfl (pgs_cons (pg_name (i := 3) sc__law_folded.nd rfl (by first | exact Or.inl rfl | exact Or.inr rfl)) (pgs_cons (pg_name (i := 4) sc__law_folded.nd rfl (by first | exact Or.inl rfl | exact Or.inr rfl)) (pgs_nil)))) (tg_tup (tgs_c (tg_name (i := 3) (by decide)) (tgs_c (tg_name (i := 4) (by decide)) (tgs_nil))) rfl) (
      jb_1 (js_setI 2 (pv 2) (je_bin op_mod pr_mod (jo_v 3 (pv 3)) (jo_v 1 (pv 1))) (je_bin or_add pr_add (jo_e (je_ix ix_seq pr_ix (jo_v 2 (pv 2)) (jo_e (je_bin op_mod pr_mod (jo_v 3 (pv 3)) (jo_v 1 (pv 1)))) (fun _ _ => rfl))) (jo_e (je_bin or_mul pr_mul (jo_v 4 (pv 4)) (jo_e (je_bin or_add pr_add (jo_v 3 (pv 3)) (jo_e (je_int)))))))))) (
      jb_1 (js_retV 2 (pv 2))))
abbrev N__law_all_many : List Str := ["_law_many", "_law_found", "_law_twos", "_law_rank"]
theorem sc__law_all_many : FnScope N__law_all_many ["_law_many"] (defScope (top 30)) := ⟨rfl, rfl, rfl, by decide +kernel, rfl, by decide +kernel, by decide +kernel⟩
theorem ok__law_all_many (T : Txt K mg base) : Y.FnOk P w K mg base (L2.CX P w) 1 T.a__law_all_many T.d__law_all_many ["_law_many"] (spY K (clK K) false 1 fn__law_all_many) := by
  unfold fn__law_all_many
  exact fn_ok T.F__law_all_many sc__law_all_many rfl rfl (by decide) fun cdv A outer s H E hr => show JB _ _ _ _ _ m__law_all_many from
      jb_c (js_asg (pg_tupA rfl (pgs_cons (pg_name (i := 1) sc__law_all_many.nd rfl (by first | exact Or.inl rfl | exact Or.inr rfl)) (pgs_cons (pg_name (i := 2) sc__law_all_many.nd rfl (by first | exact Or.inl rfl | exact Or.inr rfl)) (pgs_nil)))) (tg_tup (tgs_c (tg_name (i := 1) (by decide)) (tgs_c (tg_name (i := 2) (by decide)) (tgs_nil))) rfl) (je_tup (ja_c (jo_e (je_int)) (ja_c (jo_e (je_int)) (ja_n))))) (
      jb_c (js_for (passes_of rfl) rfl (ji_rng1 (by rfl) T.z_range (jo_v 0 (pv 0))) (pg_name (i := 3) sc__law_all_many.nd rfl (by first | exact Or.inl rfl | exact Or.inr rfl)) (tg_name (i := 3) (by decide)) (
      jb_1 (js_par2 (i := 1) (j := 2) rfl sc__law_all_many.nd rfl rfl (by decide) rfl rfl (by decide) (je_bin or_add pr_add (jo_e (je_bin or_add pr_add (jo_v 1 (pv 1)) (jo_e (je_bin or_mul pr_mul (jo_v 3 (pv 3)) (jo_v 2 (pv 2)))))) (jo_e (je_int))) (je_bin or_mul pr_mul (jo_v 2 (pv 2)) (jo_e (je_int))) rfl))) (
      jb_1 (js_retV 1 (pv 1))))
abbrev N__law_draw : List Str := ["_law_tape_here", "_law_many", "_law_found", "_law_once", "_law_twice", "_law_wide"]
theorem sc__law_draw : FnScope N__law_draw ["_law_tape_here", "_law_many"] (defScope (top 22)) := ⟨rfl, rfl, rfl, by decide +kernel, rfl, by decide +kernel, by decide +kernel⟩
theorem ok__law_draw (T : Txt K mg base) : Y.FnOk P w K mg base (L2.CX P w) 1 T.a__law_draw T.d__law_draw ["_law_tape_here", "_law_many"] (spY K (clK K) true 2 fn__law_draw) := by
  unfold fn__law_draw
  exact fn_ok T.F__law_draw sc__law_draw rfl rfl (by decide) fun cdv A outer s H E hr => show JB _ _ _ _ _ m__law_draw from
      jb_c (js_if (jt_cmp op_gt (nomark _) pr_gt (jo_e (je_ix ix_seq pr_ix (jo_v 0 (pv 0)) (jo_e (je_int)) (fun _ _ => rfl))) (jo_e (je_int))) (
      jb_c (js_set (i := 2) sc__law_draw.nd rfl (by first | exact Or.inl rfl | exact Or.inr rfl) (by decide) (je_bin op_mod pr_mod (jo_e (je_ix ix_seq pr_ix (jo_v 0 (pv 0)) (jo_e (je_int)) (fun _ _ => rfl))) (jo_v 1 (pv 1)))) (
      jb_c (js_setI 0 (pv 0) (je_int) (je_bin op_fdivW pr_div (jo_e (je_ix ix_seq pr_ix (jo_v 0 (pv 0)) (jo_e (je_int)) (fun _ _ => rfl))) (jo_v 1 (pv 1)))) (
      jb_1 (js_retV 2 (pv 2))))) (jb_nil)) (
      jb_c (js_setI 0 (pv 0) (je_int) (je_bin or_add pr_add (jo_e (je_ix ix_seq pr_ix (jo_v 0 (pv 0)) (jo_e (je_int)) (fun _ _ => rfl))) (jo_e (je_int)))) (
      jb_c (js_set (i := 3) sc__law_draw.nd rfl (by first | exact Or.inl rfl | exact Or.inr rfl) (by decide) (je_bin op_mod pr_mod (jo_e (je_bin op_pow pr_pow (jo_e (je_bin or_add pr_add (jo_e (je_ix ix_seq pr_ix (jo_v 0 (pv 0)) (jo_e (je_int)) (fun _ _ => rfl))) (jo_e (je_bin or_mul pr_mul (jo_e (je_int)) (jo_e (je_ix ix_seq pr_ix (jo_v 0 (pv 0)) (jo_e (je_int)) (fun _ _ => rfl))))))) (jo_e (je_int)))) (jo_e (je_int)))) (
      jb_c (js_set (i := 4) sc__law_draw.nd rfl (by first | exact Or.inl rfl | exact Or.inr rfl) (by decide) (je_bin op_mod pr_mod (jo_e (je_bin or_mul pr_mul (jo_e (je_bin or_add pr_add (jo_v 3 (pv 3)) (jo_e (je_ix ix_seq pr_ix (jo_v 0 (pv 0)) (jo_e (je_int)) (fun _ _ => rfl))))) (jo_e (je_bin or_add pr_add (jo_e (je_bin or_add pr_add (jo_e (je_bin op_mod pr_mod (jo_v 3 (pv 3)) (jo_e (je_int)))) (jo_e (je_int)))) (jo_e (je_ix ix_seq pr_ix (jo_v 0 (pv 0)) (jo_e (je_int)) (fun _ _ => rfl))))))) (jo_e (je_int)))) (
      jb_c (js_set (i := 5) sc__law_draw.nd rfl (by first | exact Or.inl rfl | exact Or.inr rfl) (by decide) (je_bin op_mod pr_mod (jo_e (je_bin or_add pr_add (jo_e (je_bin or_add pr_add (jo_e (je_bin op_fdivW pr_div (jo_e (je_ix ix_seq pr_ix (jo_v 0 (pv 0)) (jo_e (je_int)) (fun _ _ => rfl))) (jo_e (je_int)))) (jo_e (je_bin or_mul pr_mul (jo_v 4 (pv 4)) (jo_e (je_int)))))) (jo_e (je_ix ix_seq pr_ix (jo_v 0 (pv 0)) (jo_e (je_int)) (fun _ _ => rfl))))) (jo_e (je_int)))) (
      jb_1 (js_ret (je_bin op_mod pr_mod (jo_e (je_bin op_fdivW pr_div (jo_e (je_bin op_mod pr_mod (jo_e (je_bin or_add pr_add (jo_e (je_bin or_add pr_add (jo_e (je_bin or_mul pr_mul (jo_v 4 (pv 4)) (jo_e (je_int)))) (jo_e (je_bin or_mul pr_mul (jo_v 5 (pv 5)) (jo_e (je_int)))))) (jo_v 3 (pv 3)))) (jo_e (je_int)))) (jo_e (je_int)))) (jo_v 1 (pv 1)))))))))
abbrev N__law_cottage : List Str := ["_law_tape_here", "_law_row", "_law_odds", "_law_least", "_law_there", "_law_here", "_law_pool", "_law_turn", "_law_memory", "_law_one"]
theorem sc__law_cottage : FnScope N__law_cottage ["_law_tape_here", "_law_row"] (defScope (top 26)) := ⟨rfl, rfl, rfl, by decide +kernel, rfl, by decide +kernel, by decide +kernel⟩
theorem ok__law_cottage (T : Txt K mg base) : Y.FnOk P w K mg base (L2.CX P w) 2 T.a__law_cottage T.d__law_cottage ["_law_tape_here", "_law_row"] (spY K (clK K) true 2 fn__law_cottage) := by
  unfold fn__law_cottage
  exact fn_ok T.F__law_cottage sc__law_cottage rfl rfl (by decide) fun cdv A outer s H E hr => show JB _ _ _ _ _ m__law_cottage from
      jb_c (js_asg (pg_tupA rfl (pgs_cons (pg_name (i := 2) sc__law_cottage.nd rfl (by first | exact Or.inl rfl | exact Or.inr rfl)) (pgs_cons (pg_name (i := 3) sc__law_cottage.nd rfl (by first | exact Or.inl rfl | exact Or.inr rfl)) (pgs_nil)))) (tg_tup (tgs_c (tg_name (i := 2) (by decide)) (tgs_c (tg_name (i := 3) (by decide)) (tgs_nil))) rfl) (je_tup (ja_c (jo_e (je_ix ix_seq pr_ix (jo_e (je_lst (ja_c (jo_e (je_int)) (ja_c (jo_e (je_int)) (ja_c (jo_e (je_int)) (ja_c (jo_e (je_int)) (ja_c (jo_e (je_int)) (ja_n)))))))) (jo_e (je_callI (i := 0) (ok__law_draw T) (hr.mono (by decide)) T.m__law_draw T.F__law_draw.kp T.b__law_draw (ja_c (jo_v 0 (pv 0)) (ja_c (jo_e (je_int)) (ja_n))))) (fun _ _ => rfl))) (ja_c (jo_e (je_bin or_mul pr_mul (jo_e (je_callI (i := 0) (ok__law_draw T) (hr.mono (by decide)) T.m__law_draw T.F__law_draw.kp T.b__law_draw (ja_c (jo_v 0 (pv 0)) (ja_c (jo_e (je_bin or_add pr_add (jo_e (je_callB cr_len pr_len (by rfl) T.z_len (by rfl) (ja_c (jo_v 1 (pv 1)) (ja_n)))) (jo_e (je_int)))) (ja_n))))) (jo_e (je_bin op_fdivW pr_div (jo_e (je_callI (i := 0) (ok__law_draw T) (hr.mono (by decide)) T.m__law_draw T.F__law_draw.kp T.b__law_draw (ja_c (jo_v 0 (pv 0)) (ja_c (jo_e (je_int)) (ja_n))))) (jo_e (je_int)))))) (ja_n))))) (
      jb_c (js_set (i := 4) sc__law_cottage.nd rfl (by first | exact Or.inl rfl | exact Or.inr rfl) (by decide) (je_bin or_add pr_add (jo_e (je_sl (jo_v 1 (pv 1)) .none (.some (je_v 3 (pv 3))))) (jo_e (je_lc (own := [("_law_one", 9)]) false rfl sc__law_cottage.nd (ji_seq (jo_e (je_sl (jo_v 1 (pv 1)) (.some (je_v 3 (pv 3))) .none))) (blkOk_by (own := [("_law_one", 9)]) (N := N__law_cottage) (sc := (defScope (top 26))) (by decide +kernel)) (fun _ _ _ _ _ => pg_name (i := 9) sc__law_cottage.nd rfl (by first | exact Or.inl rfl | exact Or.inr rfl)) (tg_name (i := 9) (by decide)) (tw_name (i := 9) (by decide)) (fun _ _ _ _ _ => jts_one (jt_cmp (or_eq hr.units) (nomark _) pr_eq (jo_e (je_callI (i := 0) (ok__law_draw T) (hr.mono (by decide)) T.m__law_draw T.F__law_draw.kp T.b__law_draw (ja_c (jo_v 0 (pv 0)) (ja_c (jo_v 2 (pv 2)) (ja_n))))) (jo_e (je_int)))) (fun _ _ _ _ _ => je_v 9 (pv 9)))))) (
      jb_c (js_setLc (i := 5) (own := [("_law_one", 9)]) false rfl sc__law_cottage.nd rfl rfl (sw_true rfl rfl rfl (by decide +kernel)) (by decide) (ji_seq (jo_v 1 (pv 1))) (blkOk_by (own := [("_law_one", 9)]) (N := N__law_cottage) (sc := (defScope (top 26))) (by decide +kernel)) (fun _ _ _ _ _ => pg_name (i := 9) sc__law_cottage.nd rfl (by first | exact Or.inl rfl | exact Or.inr rfl)) (tg_name (i := 9) (by decide)) (tw_name (i := 9) (by decide)) (fun _ _ _ _ _ => jts_one (jt_cmp (or_nin (u65 hr)) rfl pr_in (jo_v 9 (pv 9)) (jo_v 4 (pv 4)))) (fun _ _ _ _ _ => je_v 9 (pv 9))) (
      jb_c (js_set (i := 6) sc__law_cottage.nd rfl (by first | exact Or.inl rfl | exact Or.inr rfl) (by decide) (je_bin or_add pr_add (jo_e (je_bin or_add pr_add (jo_e (je_bin or_add pr_add (jo_e (je_bin or_add pr_add (jo_e (je_lst (ja_c (jo_e (je_int)) (ja_n)))) (jo_e (je_bin or_mul pr_mul (jo_e (je_sl (jo_v 4 (pv 4)) (.some (je_un un_neg pr_neg (jo_e (je_int)))) .none)) (jo_e (je_int)))))) (jo_e (je_sl (jo_v 4 (pv 4)) .none (.some (je_int)))))) (jo_e (je_sl (jo_v 5 (pv 5)) .none (.some (je_int)))))) (jo_e (je_sl (jo_v 5 (pv 5)) (.some (je_un un_neg pr_neg (jo_e (je_int)))) .none)))) (
      jb_c (js_set (i := 6) sc__law_cottage.nd rfl (by first | exact Or.inl rfl | exact Or.inr rfl) (by decide) (je_bin or_add pr_add (jo_v 6 (pv 6)) (jo_e (je_sl (jo_v 1 (pv 1)) (.some (je_v 3 (pv 3))) (.some (je_bin or_add pr_add (jo_v 3 (pv 3)) (jo_e (je_int)))))))) (
      jb_c (js_for (passes_of rfl) rfl (ji_rng1 (by rfl) T.z_range (jo_e (je_bin or_mul pr_mul (jo_e (je_int)) (jo_e (je_callT call_int1 pr_int (by rfl) T.z_int (by rfl) (ja_c (jo_e (je_cmp (or_ne hr.units) (nomark _) pr_ne (jo_v 1 (pv 1)) (jo_e (je_lst (ja_n))))) (ja_n))))))) (pg_name (i := 7) sc__law_cottage.nd rfl (by first | exact Or.inl rfl | exact Or.inr rfl)) (tg_name (i := 7) (by decide)) (
      jb_1 (js_app 6 (pv 6) (je_ix ix_seq pr_ix (jo_v 1 (pv 1)) (jo_e (je_callI (i := 0) (ok__law_draw T) (hr.mono (by decide)) T.m__law_draw T.F__law_draw.kp T.b__law_draw (ja_c (jo_v 0 (pv 0)) (ja_c (jo_e (je_callB cr_len pr_len (by rfl) T.z_len (by rfl) (ja_c (jo_v 1 (pv 1)) (ja_n)))) (ja_n))))) (fun _ _ => rfl))))) (
      jb_c (js_set (i := 8) sc__law_cottage.nd rfl (by first | exact Or.inl rfl | exact Or.inr rfl) (by decide) (je_ix ix_seq pr_ix (jo_v 6 (pv 6)) (jo_e (je_callI (i := 0) (ok__law_draw T) (hr.mono (by decide)) T.m__law_draw T.F__law_draw.kp T.b__law_draw (ja_c (jo_v 0 (pv 0)) (ja_c (jo_e (je_callB cr_len pr_len (by rfl) T.z_len (by rfl) (ja_c (jo_v 6 (pv 6)) (ja_n)))) (ja_n))))) (fun _ _ => rfl))) (
      jb_c (js_set (i := 8) sc__law_cottage.nd rfl (by first | exact Or.inl rfl | exact Or.inr rfl) (by decide) (je_if (jt_w (jw_and (jt_cmp (or_eq hr.units) (nomark _) pr_eq (jo_e (je_callI (i := 0) (ok__law_draw T) (hr.mono (by decide)) T.m__law_draw T.F__law_draw.kp T.b__law_draw (ja_c (jo_v 0 (pv 0)) (ja_c (jo_e (je_int)) (ja_n))))) (jo_e (je_int))) (jw_and1 (jt_cmp op_lt (nomark _) pr_lt (jo_v 8 (pv 8)) (jo_e (je_bin op_pow pr_pow (jo_e (je_int)) (jo_e (je_int)))))))) (je_bin or_add pr_add (jo_v 8 (pv 8)) (jo_e (je_int))) (je_v 8 (pv 8)))) (
      jb_1 (js_ret (je_tup (ja_c (jo_e (je_tup (ja_c (jo_e (je_callT call_tuple_of pr_tuple (by rfl) T.z_tuple (by rfl) (ja_c (jo_v 5 (pv 5)) (ja_n)))) (ja_c (jo_e (je_callT call_tuple_of pr_tuple (by rfl) T.z_tuple (by rfl) (ja_c (jo_v 4 (pv 4)) (ja_n)))) (ja_n))))) (ja_c (jo_e (je_tup (ja_c (jo_v 8 (pv 8)) (ja_n)))) (ja_n)))))))))))))
abbrev N__law_is_come : List Str := ["_law_cottage_here", "_law_here", "_law_there", "_law_memory", "_law_one"]
theorem sc__law_is_come : FnScope N__law_is_come ["_law_cottage_here"] (defScope (top 27)) := ⟨rfl, rfl, rfl, by decide +kernel, rfl, by decide +kernel, by decide +kernel⟩
theorem ok__law_is_come (T : Txt K mg base) : Y.FnOk P w K mg base (L2.CX P w) 1 T.a__law_is_come T.d__law_is_come ["_law_cottage_here"] (spY K (clK K) false 1 fn__law_is_come) := by
  unfold fn__law_is_come
  exact fn_ok T.F__law_is_come sc__law_is_come rfl rfl (by decide) fun cdv A outer s H E hr => show JB _ _ _ _ _ m__law_is_come from
      jb_c (js_asg (pg_tupA rfl (pgs_cons (pg_name (i := 1) sc__law_is_come.nd rfl (by first | exact Or.inl rfl | exact Or.inr rfl)) (pgs_cons (pg_name (i := 2) sc__law_is_come.nd rfl (by first | exact Or.inl rfl | exact Or.inr rfl)) (pgs_cons (pg_name (i := 3) sc__law_is_come.nd rfl (by first | exact Or.inl rfl | exact Or.inr rfl)) (pgs_nil))))) (tg_tup (tgs_c (tg_name (i := 1) (by decide)) (tgs_c (tg_name (i := 2) (by decide)) (tgs_c (tg_name (i := 3) (by decide)) (tgs_nil)))) rfl) (je_tup (ja_c (jo_e (je_ix ix_seq pr_ix (jo_e (je_ix ix_seq pr_ix (jo_v 0 (pv 0)) (jo_e (je_int)) (fun _ _ => rfl))) (jo_e (je_int)) (fun _ _ => rfl))) (ja_c (jo_e (je_ix ix_seq pr_ix (jo_e (je_ix ix_seq pr_ix (jo_v 0 (pv 0)) (jo_e (je_int)) (fun _ _ => rfl))) (jo_e (je_int)) (fun _ _ => rfl))) (ja_c (jo_e (je_ix ix_seq pr_ix (jo_e (je_ix ix_seq pr_ix (jo_v 0 (pv 0)) (jo_e (je_int)) (fun _ _ => rfl))) (jo_e (je_int)) (fun _ _ => rfl))) (ja_n)))))) (
      jb_c (js_if (jt_cmp (or_eq hr.units) (nomark _) pr_eq (jo_v 2 (pv 2)) (jo_e (je_tup (ja_n)))) (
      jb_1 (js_ret (je_cmp (or_eq hr.units) (nomark _) pr_eq (jo_v 3 (pv 3)) (jo_e (je_int))))) (jb_nil)) (
      jb_c (js_if (jt_cmp (or_in (u65 hr)) rfl pr_in (jo_v 3 (pv 3)) (jo_v 2 (pv 2))) (
      jb_1 (js_ret (je_or (je_cmp (or_eq hr.units) (nomark _) pr_eq (jo_v 3 (pv 3)) (jo_e (je_callB (or_max rfl hr.units) pr_max1 (by rfl) T.z_max (by rfl) (ja_c (jo_v 2 (pv 2)) (ja_n))))) (je_one (je_callB (cr_any rfl) pr_any (by rfl) T.z_any (by rfl) (ja_c (jo_e (je_lc (own := [("_law_one", 4)]) false rfl sc__law_is_come.nd (ji_seq (jo_v 1 (pv 1))) (blkOk_by (own := [("_law_one", 4)]) (N := N__law_is_come) (sc := (defScope (top 27))) (by decide +kernel)) (fun _ _ _ _ _ => pg_name (i := 4) sc__law_is_come.nd rfl (by first | exact Or.inl rfl | exact Or.inr rfl)) (tg_name (i := 4) (by decide)) (tw_name (i := 4) (by decide)) (fun _ _ _ _ _ => jts_nil) (fun _ _ _ _ _ => je_cmp op_lt (nomark _) pr_lt (jo_v 4 (pv 4)) (jo_v 3 (pv 3))))) (ja_n))))))) (jb_nil)) (
      jb_1 (js_ret (je_and (je_cmp (or_in (u65 hr)) rfl pr_in (jo_v 3 (pv 3)) (jo_v 1 (pv 1))) (je_one (je_cmp op_lt (nomark _) pr_lt (jo_v 3 (pv 3)) (jo_e (je_callB (or_max rfl hr.units) pr_max1 (by rfl) T.z_max (by rfl) (ja_c (jo_v 2 (pv 2)) (ja_n)))))))))))
abbrev N__law_number_due : List Str := ["_law_cottage_here", "_law_row", "_law_there", "_law_rank", "_law_found", "_law_twos", "_law_sums", "_law_k", "_law_half", "_law_lowest"]
theorem sc__law_number_due : FnScope N__law_number_due ["_law_cottage_here"] (defScope (top 29)) := ⟨rfl, rfl, rfl, by decide +kernel, rfl, by decide +kernel, by decide +kernel⟩
theorem ok__law_number_due (T : Txt K mg base) : Y.FnOk P w K mg base (L2.CX P w) 1 T.a__law_number_due T.d__law_number_due ["_law_cottage_here"] (spY K (clK K) false 1 fn__law_number_due) := by
  unfold fn__law_number_due
  exact fn_ok T.F__law_number_due sc__law_number_due rfl rfl (by decide) fun cdv A outer s H E hr => show JB _ _ _ _ _ m__law_number_due from
      jb_c (js_asg (pg_tupA rfl (pgs_cons (pg_name (i := 1) sc__law_number_due.nd rfl (by first | exact Or.inl rfl | exact Or.inr rfl)) (pgs_cons (pg_name (i := 2) sc__law_number_due.nd rfl (by first | exact Or.inl rfl | exact Or.inr rfl)) (pgs_nil)))) (tg_tup (tgs_c (tg_name (i := 1) (by decide)) (tgs_c (tg_name (i := 2) (by decide)) (tgs_nil))) rfl) (je_tup (ja_c (jo_e (je_callB (cr_sortD hr.units) pr_sorted (by rfl) T.z_sorted (by rfl) (ja_c (jo_e (je_bin or_add pr_add (jo_e (je_ix ix_seq pr_ix (jo_e (je_ix ix_seq pr_ix (jo_v 0 (pv 0)) (jo_e (je_int)) (fun _ _ => rfl))) (jo_e (je_int)) (fun _ _ => rfl))) (jo_e (je_ix ix_seq pr_ix (jo_e (je_ix ix_seq pr_ix (jo_v 0 (pv 0)) (jo_e (je_int)) (fun _ _ => rfl))) (jo_e (je_int)) (fun _ _ => rfl))))) (ja_n)))) (ja_c (jo_e (je_ix ix_seq pr_ix (jo_e (je_ix ix_seq pr_ix (jo_v 0 (pv 0)) (jo_e (je_int)) (fun _ _ => rfl))) (jo_e (je_int)) (fun _ _ => rfl))) (ja_n))))) (
      jb_c (js_if (jt_cmp (or_eq hr.units) (nomark _) pr_eq (jo_v 2 (pv 2)) (jo_e (je_tup (ja_n)))) (
      jb_1 (js_ret (je_int))) (jb_nil)) (
      jb_c (js_asg (pg_tupA rfl (pgs_cons (pg_name (i := 3) sc__law_number_due.nd rfl (by first | exact Or.inl rfl | exact Or.inr rfl)) (pgs_cons (pg_name (i := 4) sc__law_number_due.nd rfl (by first | exact Or.inl rfl | exact Or.inr rfl)) (pgs_cons (pg_name (i := 5) sc__law_number_due.nd rfl (by first | exact Or.inl rfl | exact Or.inr rfl)) (pgs_cons (pg_name (i := 6) sc__law_number_due.nd rfl (by first | exact Or.inl rfl | exact Or.inr rfl)) (pgs_nil)))))) (tg_tup (tgs_c (tg_name (i := 3) (by decide)) (tgs_c (tg_name (i := 4) (by decide)) (tgs_c (tg_name (i := 5) (by decide)) (tgs_c (tg_name (i := 6) (by decide)) (tgs_nil))))) rfl) (je_tup (ja_c (jo_e (je_idx (u65 hr) (jo_v 1 (pv 1)) (jo_e (je_callB (or_max rfl hr.units) pr_max1 (by rfl) T.z_max (by rfl) (ja_c (jo_v 2 (pv 2)) (ja_n)))))) (ja_c (jo_e (je_int)) (ja_c (jo_e (je_int)) (ja_c (jo_e (je_int)) (ja_n))))))) (
      jb_c (js_for (passes_of rfl) rfl (ji_rng1 (by rfl) T.z_range (jo_v 3 (pv 3))) (pg_name (i := 7) sc__law_number_due.nd rfl (by first | exact Or.inl rfl | exact Or.inr rfl)) (tg_name (i := 7) (by decide)) (
      jb_c (js_set (i := 4) sc__law_number_due.nd rfl (by first | exact Or.inl rfl | exact Or.inr rfl) (by decide) (je_bin or_add pr_add (jo_e (je_bin or_add pr_add (jo_v 4 (pv 4)) (jo_e (je_bin or_mul pr_mul (jo_v 7 (pv 7)) (jo_v 5 (pv 5)))))) (jo_e (je_int)))) (
      jb_1 (js_par2 (i := 6) (j := 5) rfl sc__law_number_due.nd rfl rfl (by decide) rfl rfl (by decide) (je_bin or_add pr_add (jo_v 6 (pv 6)) (jo_e (je_bin or_mul pr_mul (jo_v 5 (pv 5)) (jo_e (je_callT call_int1 pr_int (by rfl) T.z_int (by rfl) (ja_c (jo_e (je_cmp (or_in (u65 hr)) rfl pr_in (jo_e (je_ix ix_seq pr_ix (jo_v 1 (pv 1)) (jo_v 7 (pv 7)) (fun _ _ => rfl))) (jo_v 2 (pv 2)))) (ja_n))))))) (je_bin or_mul pr_mul (jo_v 5 (pv 5)) (jo_e (je_int))) rfl)))) (
      jb_c (js_par2 (i := 4) (j := 8) rfl sc__law_number_due.nd rfl rfl (by decide) rfl rfl (by decide) (je_bin or_add pr_add (jo_v 4 (pv 4)) (jo_e (je_bin or_mul pr_mul (jo_e (je_bin or_add pr_add (jo_v 3 (pv 3)) (jo_e (je_int)))) (jo_v 6 (pv 6))))) (je_v 6 (pv 6)) rfl) (
      jb_c (js_while (passes_of rfl) (jt_cmp op_gt (nomark _) pr_gt (jo_v 8 (pv 8)) (jo_e (je_int))) (
      jb_c (js_set (i := 8) sc__law_number_due.nd rfl (by first | exact Or.inl rfl | exact Or.inr rfl) (by decide) (je_bin op_fdivW pr_div (jo_v 8 (pv 8)) (jo_e (je_int)))) (
      jb_1 (js_set (i := 4) sc__law_number_due.nd rfl (by first | exact Or.inl rfl | exact Or.inr rfl) (by decide) (je_bin op_sub pr_sub (jo_v 4 (pv 4)) (jo_v 8 (pv 8))))))) (
      jb_c (js_set (i := 9) sc__law_number_due.nd rfl (by first | exact Or.inl rfl | exact Or.inr rfl) (by decide) (je_ix ix_seq pr_ix (jo_e (je_lc (own := [("_law_k", 7)]) false rfl sc__law_number_due.nd (ji_rng1 (by rfl) T.z_range (jo_e (je_bin or_add pr_add (jo_v 3 (pv 3)) (jo_e (je_int))))) (blkOk_by (own := [("_law_k", 7)]) (N := N__law_number_due) (sc := (defScope (top 29))) (by decide +kernel)) (fun _ _ _ _ _ => pg_name (i := 7) sc__law_number_due.nd rfl (by first | exact Or.inl rfl | exact Or.inr rfl)) (tg_name (i := 7) (by decide)) (tw_name (i := 7) (by decide)) (fun _ _ _ _ _ => jts_one (jt_w (jw_or (jt_cmp (or_eq hr.units) (nomark _) pr_eq (jo_v 7 (pv 7)) (jo_v 3 (pv 3))) (jw_or1 (jt_cmp (or_nin (u65 hr)) rfl pr_in (jo_e (je_ix ix_seq pr_ix (jo_v 1 (pv 1)) (jo_v 7 (pv 7)) (fun _ _ => rfl))) (jo_v 2 (pv 2))))))) (fun _ _ _ _ _ => je_v 7 (pv 7)))) (jo_e (je_int)) (fun _ _ => rfl))) (
      jb_1 (js_ret (je_bin op_sub pr_sub (jo_e (je_bin or_add pr_add (jo_v 4 (pv 4)) (jo_e (je_idx (u65 hr) (jo_v 1 (pv 1)) (jo_e (je_ix ix_seq pr_ix (jo_e (je_ix ix_seq pr_ix (jo_v 0 (pv 0)) (jo_e (je_int)) (fun _ _ => rfl))) (jo_e (je_int)) (fun _ _ => rfl))))))) (jo_v 9 (pv 9)))))))))))
abbrev N__law_same : List Str := ["_law_found", "_law_due", "_law_one", "_law_other"]
theorem sc__law_same : FnScope N__law_same ["_law_found", "_law_due"] (defScope (top 24)) := ⟨rfl, rfl, rfl, by decide +kernel, rfl, by decide +kernel, by decide +kernel⟩
theorem ok__law_same (T : Txt K mg base) : ∀ d : Nat, Y.FnOk P w K mg base (L2.CX P w) (d + 1) T.a__law_same T.d__law_same ["_law_found", "_law_due"] (spY K (clK K) false 2 (fn__law_same d))
  | 0 => by
    rw [fn__law_same_0]
    exact fn_no T.F__law_same sc__law_same
  | d + 1 => by
    have ih := ok__law_same T d
    rw [fn__law_same_s]
    exact fn_ok (k := d + 1) T.F__law_same sc__law_same rfl rfl (by decide) fun cdv A outer s H E hr => show JB _ _ _ _ _ (m__law_same (fn__law_same d)) from
      jb_c (js_if (jt_val (je_isi2 (by decide) (by decide) (by rfl) T.z_isinstance (by rfl) T.z_list (by rfl) (by rfl) T.z_tuple (by rfl) (jo_v 1 (pv 1)))) (
      jb_c (js_if (jt_w (jw_or (jt_cmp (or_ne hr.units) (nomark _) pr_ne (jo_e (je_isi1 (by decide) (by rfl) T.z_isinstance (by rfl) T.z_list (by rfl) (jo_v 0 (pv 0)))) (jo_e (je_isi1 (by decide) (by rfl) T.z_isinstance (by rfl) T.z_list (by rfl) (jo_v 1 (pv 1))))) (jw_or1 (jt_cmp (or_ne hr.units) (nomark _) pr_ne (jo_e (je_isi1 (by decide) (by rfl) T.z_isinstance (by rfl) T.z_tuple (by rfl) (jo_v 0 (pv 0)))) (jo_e (je_isi1 (by decide) (by rfl) T.z_isinstance (by rfl) T.z_tuple (by rfl) (jo_v 1 (pv 1)))))))) (
      jb_1 (js_ret (je_bl))) (jb_nil)) (
      jb_1 (js_ret (je_and (je_cmp (or_eq hr.units) (nomark _) pr_eq (jo_e (je_callB cr_len pr_len (by rfl) T.z_len (by rfl) (ja_c (jo_v 0 (pv 0)) (ja_n)))) (jo_e (je_callB cr_len pr_len (by rfl) T.z_len (by rfl) (ja_c (jo_v 1 (pv 1)) (ja_n))))) (je_one (je_callB (cr_all rfl) pr_all (by rfl) T.z_all (by rfl) (ja_c (jo_e (je_lc (own := [("_law_one", 2), ("_law_other", 3)]) false rfl sc__law_same.nd (ji_zip (by rfl) T.z_zip (jo_v 0 (pv 0)) (jo_v 1 (pv 1))) (blkOk_by (own := [("_law_one", 2), ("_law_other", 3)]) (N := N__law_same) (sc := (defScope (top 24))) (by decide +kernel)) (fun _ _ _ _ _ => pg_tupA rfl (pgs_cons (pg_name (i := 2) sc__law_same.nd rfl (by first | exact Or.inl rfl | exact Or.inr rfl)) (pgs_cons (pg_name (i := 3) sc__law_same.nd rfl (by first | exact Or.inl rfl | exact Or.inr rfl)) (pgs_nil)))) (tg_tup (tgs_c (tg_name (i := 2) (by decide)) (tgs_c (tg_name (i := 3) (by decide)) (tgs_nil))) rfl) (tw_tup (tws_c (tw_name (i := 2) (by decide)) (tws_c (tw_name (i := 3) (by decide)) (tws_nil)))) (fun _ _ _ _ _ => jts_nil) (fun _ _ _ _ _ => je_call ih (hr.mono (by omega)) T.m__law_same T.F__law_same.kp T.b__law_same (ja_c (jo_v 2 (pv 2)) (ja_c (jo_v 3 (pv 3)) (ja_n)))))) (ja_n)))))))) (jb_nil)) (
      jb_c (js_if (jt_w (jw_or (jt_cmp or_is (nomark _) pr_is (jo_v 1 (pv 1)) (jo_e (je_non))) (jw_or1 (jt_val (je_isi2 (by decide) (by decide) (by rfl) T.z_isinstance (by rfl) T.z_str (by rfl) (by rfl) T.z_bool (by rfl) (jo_v 1 (pv 1))))))) (
      jb_1 (js_ret (je_and (je_cmp (or_eq hr.units) (nomark _) pr_eq (jo_e (je_isi1 (by decide) (by rfl) T.z_isinstance (by rfl) T.z_bool (by rfl) (jo_v 0 (pv 0)))) (jo_e (je_isi1 (by decide) (by rfl) T.z_isinstance (by rfl) T.z_bool (by rfl) (jo_v 1 (pv 1))))) (je_one (je_cmp (or_eq hr.units) (nomark _) pr_eq (jo_v 0 (pv 0)) (jo_v 1 (pv 1))))))) (jb_nil)) (
      jb_1 (js_ret (je_and (je_isi1 (by decide) (by rfl) T.z_isinstance (by rfl) T.z_int (by rfl) (jo_v 0 (pv 0))) (je_and (je_not (je_isi1 (by decide) (by rfl) T.z_isinstance (by rfl) T.z_bool (by rfl) (jo_v 0 (pv 0)))) (je_one (je_cmp (or_eq hr.units) (nomark _) pr_eq (jo_v 0 (pv 0)) (jo_v 1 (pv 1)))))))))
abbrev N__law_standing_key : List Str := ["_law_cottage_here", "_law_row", "_law_there", "_law_twos", "_law_sums", "_law_one"]
theorem sc__law_standing_key : FnScope N__law_standing_key ["_law_cottage_here"] (defScope (top 28)) := ⟨rfl, rfl, rfl, by decide +kernel, rfl, by decide +kernel, by decide +kernel⟩
theorem ok__law_standing_key (T : Txt K mg base) : Y.FnOk P w K mg base (L2.CX P w) 1 T.a__law_standing_key T.d__law_standing_key ["_law_cottage_here"] (spY K (clK K) false 1 fn__law_standing_key) := by
  unfold fn__law_standing_key
  exact fn_ok T.F__law_standing_key sc__law_standing_key rfl rfl (by decide) fun cdv A outer s H E hr => show JB _ _ _ _ _ m__law_standing_key from
      jb_c (js_par2 (i := 1) (j := 2) rfl sc__law_standing_key.nd rfl rfl (by decide) rfl rfl (by decide) (je_callB (cr_sortD hr.units) pr_sorted (by rfl) T.z_sorted (by rfl) (ja_c (jo_e (je_bin or_add pr_add (jo_e (je_ix ix_seq pr_ix (jo_e (je_ix ix_seq pr_ix (jo_v 0 (pv 0)) (jo_e (je_int)) (fun _ _ => rfl))) (jo_e (je_int)) (fun _ _ => rfl))) (jo_e (je_ix ix_seq pr_ix (jo_e (je_ix ix_seq pr_ix (jo_v 0 (pv 0)) (jo_e (je_int)) (fun _ _ => rfl))) (jo_e (je_int)) (fun _ _ => rfl))))) (ja_n))) (je_ix ix_seq pr_ix (jo_e (je_ix ix_seq pr_ix (jo_v 0 (pv 0)) (jo_e (je_int)) (fun _ _ => rfl))) (jo_e (je_int)) (fun _ _ => rfl)) rfl) (
      jb_c (js_if (jt_cmp (or_eq hr.units) (nomark _) pr_eq (jo_v 2 (pv 2)) (jo_e (je_tup (ja_n)))) (
      jb_1 (js_ret (je_tup (ja_c (jo_e (je_int)) (ja_c (jo_e (je_int)) (ja_c (jo_e (je_int)) (ja_n))))))) (jb_nil)) (
      jb_c (js_asg (pg_tupA rfl (pgs_cons (pg_name (i := 3) sc__law_standing_key.nd rfl (by first | exact Or.inl rfl | exact Or.inr rfl)) (pgs_cons (pg_name (i := 4) sc__law_standing_key.nd rfl (by first | exact Or.inl rfl | exact Or.inr rfl)) (pgs_nil)))) (tg_tup (tgs_c (tg_name (i := 3) (by decide)) (tgs_c (tg_name (i := 4) (by decide)) (tgs_nil))) rfl) (je_tup (ja_c (jo_e (je_int)) (ja_c (jo_e (je_int)) (ja_n))))) (
      jb_c (js_for (passes_of rfl) rfl (ji_seq (jo_v 1 (pv 1))) (pg_name (i := 5) sc__law_standing_key.nd rfl (by first | exact Or.inl rfl | exact Or.inr rfl)) (tg_name (i := 5) (by decide)) (
      jb_1 (js_par2 (i := 4) (j := 3) rfl sc__law_standing_key.nd rfl rfl (by decide) rfl rfl (by decide) (je_bin or_add pr_add (jo_v 4 (pv 4)) (jo_e (je_bin or_mul pr_mul (jo_v 3 (pv 3)) (jo_e (je_callT call_int1 pr_int (by rfl) T.z_int (by rfl) (ja_c (jo_e (je_and (je_cmp (or_in (u65 hr)) rfl pr_in (jo_v 5 (pv 5)) (jo_v 2 (pv 2))) (je_one (je_cmp (or_ne hr.units) (nomark _) pr_ne (jo_v 5 (pv 5)) (jo_e (je_callB (or_max rfl hr.units) pr_max1 (by rfl) T.z_max (by rfl) (ja_c (jo_v 2 (pv 2)) (ja_n)))))))) (ja_n))))))) (je_bin or_mul pr_mul (jo_v 3 (pv 3)) (jo_e (je_int))) rfl))) (
      jb_1 (js_ret (je_tup (ja_c (jo_e (je_callB (or_max rfl hr.units) pr_max1 (by rfl) T.z_max (by rfl) (ja_c (jo_v 2 (pv 2)) (ja_n)))) (ja_c (jo_v 4 (pv 4)) (ja_c (jo_e (je_ix ix_seq pr_ix (jo_e (je_ix ix_seq pr_ix (jo_v 0 (pv 0)) (jo_e (je_int)) (fun _ _ => rfl))) (jo_e (je_int)) (fun _ _ => rfl))) (ja_n))))))))))
abbrev N_is_come : List Str := ["house", "here", "there", "memory", "weight"]
theorem sc_is_come : FnScope N_is_come ["house"] (defScope (top 11)) := ⟨rfl, rfl, rfl, by decide +kernel, rfl, by decide +kernel, by decide +kernel⟩
theorem ok_is_come (T : Txt K mg base) : Y.FnOk P w K mg base (L2.CX P w) 1 T.a_is_come T.d_is_come ["house"] (spY K (clK K) false 1 fn_is_come) := by
  unfold fn_is_come
  exact fn_ok T.F_is_come sc_is_come rfl rfl (by decide) fun cdv A outer s H E hr => show JB _ _ _ _ _ m_is_come from
      jb_c (js_asg (pg_tupA rfl (pgs_cons (pg_tupA rfl (pgs_cons (pg_name (i := 1) sc_is_come.nd rfl (by first | exact Or.inl rfl | exact Or.inr rfl)) (pgs_cons (pg_name (i := 2) sc_is_come.nd rfl (by first | exact Or.inl rfl | exact Or.inr rfl)) (pgs_nil)))) (pgs_cons (pg_tupA rfl (pgs_cons (pg_name (i := 3) sc_is_come.nd rfl (by first | exact Or.inl rfl | exact Or.inr rfl)) (pgs_nil))) (pgs_nil)))) (tg_tup (tgs_c (tg_tup (tgs_c (tg_name (i := 1) (by decide)) (tgs_c (tg_name (i := 2) (by decide)) (tgs_nil))) rfl) (tgs_c (tg_tup (tgs_c (tg_name (i := 3) (by decide)) (tgs_nil)) rfl) (tgs_nil))) rfl) (je_v 0 (pv 0))) (
      jb_c (js_if (jt_w (jw_or (jt_cmp (or_eq hr.units) (nomark _) pr_eq (jo_e (je_callB cr_len pr_len (by rfl) T.z_len (by rfl) (ja_c (jo_v 2 (pv 2)) (ja_n)))) (jo_e (je_int))) (jw_or1 (jt_cmp (or_eq hr.units) (nomark _) pr_eq (jo_v 3 (pv 3)) (jo_e (je_int)))))) (
      jb_1 (js_ret (je_chain (or_eq hr.units) (or_eq hr.units) pr_eq pr_eq (jo_e (je_callB cr_len pr_len (by rfl) T.z_len (by rfl) (ja_c (jo_v 2 (pv 2)) (ja_n)))) (jo_v 3 (pv 3)) (jo_e (je_int))))) (jb_nil)) (
      jb_c (js_if (jt_cmp (or_in (u65 hr)) rfl pr_in (jo_v 3 (pv 3)) (jo_v 2 (pv 2))) (
      jb_1 (js_ret (je_or (je_cmp (or_eq hr.units) (nomark _) pr_eq (jo_v 3 (pv 3)) (jo_e (je_callB (or_max rfl hr.units) pr_max1 (by rfl) T.z_max (by rfl) (ja_c (jo_v 2 (pv 2)) (ja_n))))) (je_one (je_callB (cr_any rfl) pr_any (by rfl) T.z_any (by rfl) (ja_c (jo_e (je_lc (own := [("weight", 4)]) false rfl sc_is_come.nd (ji_seq (jo_v 1 (pv 1))) (blkOk_by (own := [("weight", 4)]) (N := N_is_come) (sc := (defScope (top 11))) (by decide +kernel)) (fun _ _ _ _ _ => pg_name (i := 4) sc_is_come.nd rfl (by first | exact Or.inl rfl | exact Or.inr rfl)) (tg_name (i := 4) (by decide)) (tw_name (i := 4) (by decide)) (fun _ _ _ _ _ => jts_nil) (fun _ _ _ _ _ => je_cmp op_lt (nomark _) pr_lt (jo_v 4 (pv 4)) (jo_v 3 (pv 3))))) (ja_n))))))) (jb_nil)) (
      jb_1 (js_ret (je_and (je_cmp (or_in (u65 hr)) rfl pr_in (jo_v 3 (pv 3)) (jo_v 1 (pv 1))) (je_one (je_cmp op_lt (nomark _) pr_lt (jo_v 3 (pv 3)) (jo_e (je_callB (or_max rfl hr.units) pr_max1 (by rfl) T.z_max (by rfl) (ja_c (jo_v 2 (pv 2)) (ja_n)))))))))))
abbrev N_look_one : List Str := ["house"]
theorem sc_look_one : FnScope N_look_one ["house"] (defScope (top 9)) := ⟨rfl, rfl, rfl, by decide +kernel, rfl, by decide +kernel, by decide +kernel⟩
theorem ok_look_one (T : Txt K mg base) : Y.FnOk P w K mg base (L2.CX P w) 1 T.a_look_one T.d_look_one ["house"] (spY K (clK K) false 1 fn_look_one) := by
  unfold fn_look_one
  exact fn_ok T.F_look_one sc_look_one rfl rfl (by decide) fun cdv A outer s H E hr => show JB _ _ _ _ _ m_look_one from
      jb_1 (js_if (jt_cmp (or_ne hr.units) (nomark _) pr_ne (jo_e (je_callB cr_len pr_len (by rfl) T.z_len (by rfl) (ja_c (jo_e (je_ix ix_seq pr_ix (jo_v 0 (pv 0)) (jo_e (je_int)) (fun _ _ => rfl))) (ja_n)))) (jo_e (je_int))) (
      jb_1 (js_never)) (jb_nil))
abbrev N_came : List Str := ["house"]
theorem sc_came : FnScope N_came ["house"] (defScope (top 12)) := ⟨rfl, rfl, rfl, by decide +kernel, rfl, by decide +kernel, by decide +kernel⟩
theorem ok_came (T : Txt K mg base) : Y.FnOk P w K mg base (L2.CX P w) 2 T.a_came T.d_came ["house"] (spY K (clK K) false 1 fn_came) := by
  unfold fn_came
  exact fn_ok T.F_came sc_came rfl rfl (by decide) fun cdv A outer s H E hr => show JB _ _ _ _ _ m_came from
      jb_c (js_expr (je_call (ok_look_one T) (hr.mono (by decide)) T.m_look_one T.F_look_one.kp T.b_look_one (ja_c (jo_v 0 (pv 0)) (ja_n)))) (
      jb_1 (js_ret (je_call (ok_is_come T) (hr.mono (by decide)) T.m_is_come T.F_is_come.kp T.b_is_come (ja_c (jo_v 0 (pv 0)) (ja_n)))))
abbrev N_two_to : List Str := ["number", "found", "turn"]
theorem sc_two_to : FnScope N_two_to ["number"] (defScope (top 5)) := ⟨rfl, rfl, rfl, by decide +kernel, rfl, by decide +kernel, by decide +kernel⟩
theorem ok_two_to (T : Txt K mg base) : Y.FnOk P w K mg base (L2.CX P w) 1 T.a_two_to T.d_two_to ["number"] (spY K (clK K) false 1 fn_two_to) := by
  unfold fn_two_to
  exact fn_ok T.F_two_to sc_two_to rfl rfl (by decide) fun cdv A outer s H E hr => show JB _ _ _ _ _ m_two_to from
      jb_c (js_set (i := 1) sc_two_to.nd rfl (by first | exact Or.inl rfl | exact Or.inr rfl) (by decide) (je_int)) (
      jb_c (js_for (passes_of rfl) rfl (ji_rng1 (by rfl) T.z_range (jo_v 0 (pv 0))) (pg_name (i := 2) sc_two_to.nd rfl (by first | exact Or.inl rfl | exact Or.inr rfl)) (tg_name (i := 2) (by decide)) (
      jb_1 (js_aug 1 ip_mulC (fun _ _ h => cMul_ok h) sc_two_to.nd rfl (by first | exact Or.inl rfl | exact Or.inr rfl) (by decide) (je_int)))) (
      jb_1 (js_retV 1 (pv 1))))
abbrev N_ahead_many : List Str := ["rank"]
theorem sc_ahead_many : FnScope N_ahead_many ["rank"] (defScope (top 13)) := ⟨rfl, rfl, rfl, by decide +kernel, rfl, by decide +kernel, by decide +kernel⟩
theorem ok_ahead_many (T : Txt K mg base) : Y.FnOk P w K mg base (L2.CX P w) 2 T.a_ahead_many T.d_ahead_many ["rank"] (spY K (clK K) false 1 fn_ahead_many) := by
  unfold fn_ahead_many
  exact fn_ok T.F_ahead_many sc_ahead_many rfl rfl (by decide) fun cdv A outer s H E hr => show JB _ _ _ _ _ m_ahead_many from
      jb_1 (js_ret (je_bin or_add pr_add (jo_e (je_bin or_add pr_add (jo_e (je_int)) (jo_v 0 (pv 0)))) (jo_e (je_bin or_mul pr_mul (jo_e (je_bin op_sub pr_sub (jo_v 0 (pv 0)) (jo_e (je_int)))) (jo_e (je_call (ok_two_to T) (hr.mono (by decide)) T.m_two_to T.F_two_to.kp T.b_two_to (ja_c (jo_v 0 (pv 0)) (ja_n))))))))
abbrev N_came_many : List Str := ["many"]
theorem sc_came_many : FnScope N_came_many ["many"] (defScope (top 14)) := ⟨rfl, rfl, rfl, by decide +kernel, rfl, by decide +kernel, by decide +kernel⟩
theorem ok_came_many (T : Txt K mg base) : Y.FnOk P w K mg base (L2.CX P w) 3 T.a_came_many T.d_came_many ["many"] (spY K (clK K) false 1 fn_came_many) := by
  unfold fn_came_many
  exact fn_ok T.F_came_many sc_came_many rfl rfl (by decide) fun cdv A outer s H E hr => show JB _ _ _ _ _ m_came_many from
      jb_1 (js_ret (je_call (ok_ahead_many T) (hr.mono (by decide)) T.m_ahead_many T.F_ahead_many.kp T.b_ahead_many (ja_c (jo_v 0 (pv 0)) (ja_n))))
abbrev N_greatest_fit : List Str := ["low", "high", "fits", "middle"]
theorem sc_greatest_fit : FnScope N_greatest_fit ["low", "high", "fits"] (defScope (top 17)) := ⟨rfl, rfl, rfl, by decide +kernel, rfl, by decide +kernel, by decide +kernel⟩
abbrev N_ones_in : List Str := ["number", "found"]
theorem sc_ones_in : FnScope N_ones_in ["number"] (defScope (top 7)) := ⟨rfl, rfl, rfl, by decide +kernel, rfl, by decide +kernel, by decide +kernel⟩
theorem ok_ones_in (T : Txt K mg base) : Y.FnOk P w K mg base (L2.CX P w) 1 T.a_ones_in T.d_ones_in ["number"] (spY K (clK K) false 1 fn_ones_in) := by
  unfold fn_ones_in
  exact fn_ok T.F_ones_in sc_ones_in rfl rfl (by decide) fun cdv A outer s H E hr => show JB _ _ _ _ _ m_ones_in from
      jb_c (js_set (i := 1) sc_ones_in.nd rfl (by first | exact Or.inl rfl | exact Or.inr rfl) (by decide) (je_int)) (
      jb_c (js_while (passes_of rfl) (jt_cmp op_gt (nomark _) pr_gt (jo_v 0 (pv 0)) (jo_e (je_int))) (
      jb_c (js_aug 1 ip_addC (fun _ _ _ => trivial) sc_ones_in.nd rfl (by first | exact Or.inl rfl | exact Or.inr rfl) (by decide) (je_bin op_mod pr_mod (jo_v 0 (pv 0)) (jo_e (je_int)))) (
      jb_1 (js_aug 0 ip_fdivC (fun _ _ h => cDiv_ok h) sc_ones_in.nd rfl (by first | exact Or.inl rfl | exact Or.inr rfl) (by decide) (je_int))))) (
      jb_1 (js_retV 1 (pv 1))))
abbrev N_lots_ahead : List Str := ["rank", "lot"]
theorem sc_lots_ahead : FnScope N_lots_ahead ["rank", "lot"] (defScope (top 15)) := ⟨rfl, rfl, rfl, by decide +kernel, rfl, by decide +kernel, by decide +kernel⟩
theorem ok_lots_ahead (T : Txt K mg base) : Y.FnOk P w K mg base (L2.CX P w) 2 T.a_lots_ahead T.d_lots_ahead ["rank", "lot"] (spY K (clK K) false 2 fn_lots_ahead) := by
  unfold fn_lots_ahead
  exact fn_ok T.F_lots_ahead sc_lots_ahead rfl rfl (by decide) fun cdv A outer s H E hr => show JB _ _ _ _ _ m_lots_ahead from
      jb_1 (js_ret (je_bin or_add pr_add (jo_e (je_bin or_mul pr_mul (jo_v 0 (pv 0)) (jo_v 1 (pv 1)))) (jo_e (je_call (ok_ones_in T) (hr.mono (by decide)) T.m_ones_in T.F_ones_in.kp T.b_ones_in (ja_c (jo_v 1 (pv 1)) (ja_n))))))
abbrev N_lowest_in : List Str := ["lot", "found"]
theorem sc_lowest_in : FnScope N_lowest_in ["lot"] (defScope (top 16)) := ⟨rfl, rfl, rfl, by decide +kernel, rfl, by decide +kernel, by decide +kernel⟩
theorem ok_lowest_in (T : Txt K mg base) : Y.FnOk P w K mg base (L2.CX P w) 1 T.a_lowest_in T.d_lowest_in ["lot"] (spY K (clK K) false 1 fn_lowest_in) := by
  unfold fn_lowest_in
  exact fn_ok T.F_lowest_in sc_lowest_in rfl rfl (by decide) fun cdv A outer s H E hr => show JB _ _ _ _ _ m_lowest_in from
      jb_c (js_set (i := 1) sc_lowest_in.nd rfl (by first | exact Or.inl rfl | exact Or.inr rfl) (by decide) (je_int)) (
      jb_c (js_while (passes_of rfl) (jt_cmp (or_eq hr.units) (nomark _) pr_eq (jo_e (je_bin op_mod pr_mod (jo_v 0 (pv 0)) (jo_e (je_int)))) (jo_e (je_int))) (
      jb_c (js_aug 0 ip_fdivC (fun _ _ h => cDiv_ok h) sc_lowest_in.nd rfl (by first | exact Or.inl rfl | exact Or.inr rfl) (by decide) (je_int)) (
      jb_1 (js_aug 1 ip_addC (fun _ _ _ => trivial) sc_lowest_in.nd rfl (by first | exact Or.inl rfl | exact Or.inr rfl) (by decide) (je_int))))) (
      jb_1 (js_retV 1 (pv 1))))
abbrev N_came_at : List Str := ["folk", "number", "row", "rank", "left", "lot", "there", "here", "place", "weight"]
theorem sc_came_at : FnScope N_came_at ["folk", "number"] (defScope (top 18)) := ⟨rfl, rfl, rfl, by decide +kernel, rfl, by decide +kernel, by decide +kernel⟩
theorem ok_came_at (T : Txt K mg base) : Y.FnOk P w K mg base (L2.CX P w) 7 T.a_came_at T.d_came_at ["folk", "number"] (spY K (clK K) false 2 fn_came_at) := by
  unfold fn_came_at
  exact fn_okC T.F_came_at sc_came_at rfl rfl (by decide) fun cdv A outer s H E hcd hr => show JB _ _ _ _ _ m_came_at from
      jb_c (js_set (i := 2) sc_came_at.nd rfl (by first | exact Or.inl rfl | exact Or.inr rfl) (by decide) (je_callB (cr_sortD hr.units) pr_sorted (by rfl) T.z_sorted (by rfl) (ja_c (jo_v 0 (pv 0)) (ja_n)))) (
      jb_c (js_if (jt_not (jt_chain op_le op_lt pr_le pr_lt (jo_e (je_int)) (jo_v 1 (pv 1)) (jo_e (je_call (ok_came_many T) (hr.mono (by decide)) T.m_came_many T.F_came_many.kp T.b_came_many (ja_c (jo_e (je_callB cr_len pr_len (by rfl) T.z_len (by rfl) (ja_c (jo_v 2 (pv 2)) (ja_n)))) (ja_n)))))) (
      jb_1 (js_never)) (jb_nil)) (
      jb_c (js_if (jt_cmp (or_eq hr.units) (nomark _) pr_eq (jo_v 1 (pv 1)) (jo_e (je_int))) (
      jb_1 (js_ret (je_tup (ja_c (jo_e (je_tup (ja_c (jo_e (je_callT call_tuple_of pr_tuple (by rfl) T.z_tuple (by rfl) (ja_c (jo_v 2 (pv 2)) (ja_n)))) (ja_c (jo_e (je_tup (ja_n))) (ja_n))))) (ja_c (jo_e (je_tup (ja_c (jo_e (je_int)) (ja_n)))) (ja_n)))))) (jb_nil)) (
      jb_c (js_set (i := 3) sc_came_at.nd rfl (by first | exact Or.inl rfl | exact Or.inr rfl) (by decide) (je_fit (k := 3) (by rfl) T.m_greatest_fit T.F_greatest_fit T.b_greatest_fit sc_greatest_fit (by rfl) (by rfl) (fun Z f act hp hN hs ha hm D n lo hi H o hD => pss_fit hp hN (by rw [hs]; rfl) (by rw [hs]; rfl) (by rw [hs]; rfl) (ha _ _ _) hm D n lo hi H o hD) T.tbs (hcd.symm.trans (code_of T.F_came_at T.fv_came_at T.t_lam)) (tabs_mem T.t_lam T.t_tail rfl) (tabs_uniq T.t_lam T.t_tail rfl) (hr.mono (by decide)) (lamS1_by (sc := defScope (top 18)) (a := "some") (by decide +kernel)) (show ("some" : Str) ∉ N_came_at by decide) rfl (fun _ _ _ _ _ _ => rfl) (je_int) (je_callB cr_len pr_len (by rfl) T.z_len (by rfl) (ja_c (jo_v 2 (pv 2)) (ja_n))) (fun A outer s H E f c' hr => je_cmp op_le (nomark _) pr_le (jo_e (je_call (ok_ahead_many T) (hr.mono (by decide)) T.m_ahead_many T.F_ahead_many.kp T.b_ahead_many (ja_c (jo_v 10 (pv 10)) (ja_n)))) (jo_v 1 (pv 1))))) (
      jb_c (js_set (i := 4) sc_came_at.nd rfl (by first | exact Or.inl rfl | exact Or.inr rfl) (by decide) (je_bin op_sub pr_sub (jo_v 1 (pv 1)) (jo_e (je_call (ok_ahead_many T) (hr.mono (by decide)) T.m_ahead_many T.F_ahead_many.kp T.b_ahead_many (ja_c (jo_v 3 (pv 3)) (ja_n)))))) (
      jb_c (js_set (i := 5) sc_came_at.nd rfl (by first | exact Or.inl rfl | exact Or.inr rfl) (by decide) (je_fit (k := 3) (by rfl) T.m_greatest_fit T.F_greatest_fit T.b_greatest_fit sc_greatest_fit (by rfl) (by rfl) (fun Z f act hp hN hs ha hm D n lo hi H o hD => pss_fit hp hN (by rw [hs]; rfl) (by rw [hs]; rfl) (by rw [hs]; rfl) (ha _ _ _) hm D n lo hi H o hD) T.tbs (hcd.symm.trans (code_of T.F_came_at T.fv_came_at T.t_lam)) (tabs_mem T.t_lam T.t_tail rfl) (tabs_uniq T.t_lam T.t_tail rfl) (hr.mono (by decide)) (lamS1_by (sc := defScope (top 18)) (a := "some") (by decide +kernel)) (show ("some" : Str) ∉ N_came_at by decide) rfl (fun _ _ _ _ _ _ => rfl) (je_int) (je_call (ok_two_to T) (hr.mono (by decide)) T.m_two_to T.F_two_to.kp T.b_two_to (ja_c (jo_v 3 (pv 3)) (ja_n))) (fun A outer s H E f c' hr => je_cmp op_le (nomark _) pr_le (jo_e (je_call (ok_lots_ahead T) (hr.mono (by decide)) T.m_lots_ahead T.F_lots_ahead.kp T.b_lots_ahead (ja_c (jo_v 3 (pv 3)) (ja_c (jo_v 10 (pv 10)) (ja_n))))) (jo_v 4 (pv 4))))) (
      jb_c (js_aug 4 ip_subC (fun _ _ _ => trivial) sc_came_at.nd rfl (by first | exact Or.inl rfl | exact Or.inr rfl) (by decide) (je_call (ok_lots_ahead T) (hr.mono (by decide)) T.m_lots_ahead T.F_lots_ahead.kp T.b_lots_ahead (ja_c (jo_v 3 (pv 3)) (ja_c (jo_v 5 (pv 5)) (ja_n))))) (
      jb_c (js_aug 5 ip_addC (fun _ _ _ => trivial) sc_came_at.nd rfl (by first | exact Or.inl rfl | exact Or.inr rfl) (by decide) (je_call (ok_two_to T) (hr.mono (by decide)) T.m_two_to T.F_two_to.kp T.b_two_to (ja_c (jo_v 3 (pv 3)) (ja_n)))) (
      jb_c (js_set (i := 6) sc_came_at.nd rfl (by first | exact Or.inl rfl | exact Or.inr rfl) (by decide) (je_lc (own := [("place", 8), ("weight", 9)]) false rfl sc_came_at.nd (ji_enum (by rfl) T.z_enumerate (jo_v 2 (pv 2))) (blkOk_by (own := [("place", 8), ("weight", 9)]) (N := N_came_at) (sc := (defScope (top 18))) (by decide +kernel)) (fun _ _ _ _ _ => pg_tupA rfl (pgs_cons (pg_name (i := 8) sc_came_at.nd rfl (by first | exact Or.inl rfl | exact Or.inr rfl)) (pgs_cons (pg_name (i := 9) sc_came_at.nd rfl (by first | exact Or.inl rfl | exact Or.inr rfl)) (pgs_nil)))) (tg_tup (tgs_c (tg_name (i := 8) (by decide)) (tgs_c (tg_name (i := 9) (by decide)) (tgs_nil))) rfl) (tw_tup (tws_c (tw_name (i := 8) (by decide)) (tws_c (tw_name (i := 9) (by decide)) (tws_nil)))) (fun _ _ _ _ _ => jts_one (jt_cmp (or_eq hr.units) (nomark _) pr_eq (jo_e (je_bin op_mod pr_mod (jo_e (je_bin op_fdivW pr_div (jo_v 5 (pv 5)) (jo_e (je_call (ok_two_to T) (hr.mono (by decide)) T.m_two_to T.F_two_to.kp T.b_two_to (ja_c (jo_v 8 (pv 8)) (ja_n)))))) (jo_e (je_int)))) (jo_e (je_int)))) (fun _ _ _ _ _ => je_v 9 (pv 9)))) (
      jb_c (js_setLc (i := 7) (own := [("weight", 9)]) false rfl sc_came_at.nd rfl rfl (sw_true rfl rfl rfl (by decide +kernel)) (by decide) (ji_seq (jo_v 2 (pv 2))) (blkOk_by (own := [("weight", 9)]) (N := N_came_at) (sc := (defScope (top 18))) (by decide +kernel)) (fun _ _ _ _ _ => pg_name (i := 9) sc_came_at.nd rfl (by first | exact Or.inl rfl | exact Or.inr rfl)) (tg_name (i := 9) (by decide)) (tw_name (i := 9) (by decide)) (fun _ _ _ _ _ => jts_one (jt_cmp (or_nin (u65 hr)) rfl pr_in (jo_v 9 (pv 9)) (jo_v 6 (pv 6)))) (fun _ _ _ _ _ => je_v 9 (pv 9))) (
      jb_1 (js_ret (je_tup (ja_c (jo_e (je_tup (ja_c (jo_e (je_callT call_tuple_of pr_tuple (by rfl) T.z_tuple (by rfl) (ja_c (jo_v 7 (pv 7)) (ja_n)))) (ja_c (jo_e (je_callT call_tuple_of pr_tuple (by rfl) T.z_tuple (by rfl) (ja_c (jo_v 6 (pv 6)) (ja_n)))) (ja_n))))) (ja_c (jo_e (je_tup (ja_c (jo_e (je_ix ix_seq pr_ix (jo_v 2 (pv 2)) (jo_e (je_bin or_add pr_add (jo_e (je_call (ok_lowest_in T) (hr.mono (by decide)) T.m_lowest_in T.F_lowest_in.kp T.b_lowest_in (ja_c (jo_e (je_bin op_sub pr_sub (jo_v 5 (pv 5)) (jo_e (je_call (ok_two_to T) (hr.mono (by decide)) T.m_two_to T.F_two_to.kp T.b_two_to (ja_c (jo_v 3 (pv 3)) (ja_n)))))) (ja_n)))) (jo_v 4 (pv 4)))) (fun _ _ => rfl))) (ja_n)))) (ja_n)))))))))))))))
abbrev N_came_number : List Str := ["house", "here", "there", "memory", "row", "rank", "lot", "weight"]
theorem sc_came_number : FnScope N_came_number ["house"] (defScope (top 19)) := ⟨rfl, rfl, rfl, by decide +kernel, rfl, by decide +kernel, by decide +kernel⟩
theorem ok_came_number (T : Txt K mg base) : Y.FnOk P w K mg base (L2.CX P w) 3 T.a_came_number T.d_came_number ["house"] (spY K (clK K) false 1 fn_came_number) := by
  unfold fn_came_number
  exact fn_ok T.F_came_number sc_came_number rfl rfl (by decide) fun cdv A outer s H E hr => show JB _ _ _ _ _ m_came_number from
      jb_c (js_expr (je_call (ok_look_one T) (hr.mono (by decide)) T.m_look_one T.F_look_one.kp T.b_look_one (ja_c (jo_v 0 (pv 0)) (ja_n)))) (
      jb_c (js_if (jt_not (jt_val (je_call (ok_is_come T) (hr.mono (by decide)) T.m_is_come T.F_is_come.kp T.b_is_come (ja_c (jo_v 0 (pv 0)) (ja_n))))) (
      jb_1 (js_never)) (jb_nil)) (
      jb_c (js_asg (pg_tupA rfl (pgs_cons (pg_tupA rfl (pgs_cons (pg_name (i := 1) sc_came_number.nd rfl (by first | exact Or.inl rfl | exact Or.inr rfl)) (pgs_cons (pg_name (i := 2) sc_came_number.nd rfl (by first | exact Or.inl rfl | exact Or.inr rfl)) (pgs_nil)))) (pgs_cons (pg_tupA rfl (pgs_cons (pg_name (i := 3) sc_came_number.nd rfl (by first | exact Or.inl rfl | exact Or.inr rfl)) (pgs_nil))) (pgs_nil)))) (tg_tup (tgs_c (tg_tup (tgs_c (tg_name (i := 1) (by decide)) (tgs_c (tg_name (i := 2) (by decide)) (tgs_nil))) rfl) (tgs_c (tg_tup (tgs_c (tg_name (i := 3) (by decide)) (tgs_nil)) rfl) (tgs_nil))) rfl) (je_v 0 (pv 0))) (
      jb_c (js_if (jt_cmp (or_eq hr.units) (nomark _) pr_eq (jo_e (je_callB cr_len pr_len (by rfl) T.z_len (by rfl) (ja_c (jo_v 2 (pv 2)) (ja_n)))) (jo_e (je_int))) (
      jb_1 (js_ret (je_int))) (jb_nil)) (
      jb_c (js_set (i := 4) sc_came_number.nd rfl (by first | exact Or.inl rfl | exact Or.inr rfl) (by decide) (je_callB (cr_sortD hr.units) pr_sorted (by rfl) T.z_sorted (by rfl) (ja_c (jo_e (je_bin or_add pr_add (jo_e (je_callT call_list_of pr_list (by rfl) T.z_list (by rfl) (ja_c (jo_v 1 (pv 1)) (ja_n)))) (jo_e (je_callT call_list_of pr_list (by rfl) T.z_list (by rfl) (ja_c (jo_v 2 (pv 2)) (ja_n)))))) (ja_n)))) (
      jb_c (js_set (i := 5) sc_came_number.nd rfl (by first | exact Or.inl rfl | exact Or.inr rfl) (by decide) (je_idx (u65 hr) (jo_v 4 (pv 4)) (jo_e (je_callB (or_max rfl hr.units) pr_max1 (by rfl) T.z_max (by rfl) (ja_c (jo_v 2 (pv 2)) (ja_n)))))) (
      jb_c (js_set (i := 6) sc_came_number.nd rfl (by first | exact Or.inl rfl | exact Or.inr rfl) (by decide) (je_bin op_sub pr_sub (jo_e (je_callB (cr_sum rfl) pr_sum (by rfl) T.z_sum (by rfl) (ja_c (jo_e (je_lc (own := [("weight", 7)]) false rfl sc_came_number.nd (ji_seq (jo_v 2 (pv 2))) (blkOk_by (own := [("weight", 7)]) (N := N_came_number) (sc := (defScope (top 19))) (by decide +kernel)) (fun _ _ _ _ _ => pg_name (i := 7) sc_came_number.nd rfl (by first | exact Or.inl rfl | exact Or.inr rfl)) (tg_name (i := 7) (by decide)) (tw_name (i := 7) (by decide)) (fun _ _ _ _ _ => jts_nil) (fun _ _ _ _ _ => je_call (ok_two_to T) (hr.mono (by decide)) T.m_two_to T.F_two_to.kp T.b_two_to (ja_c (jo_e (je_idx (u65 hr) (jo_v 4 (pv 4)) (jo_v 7 (pv 7)))) (ja_n))))) (ja_n)))) (jo_e (je_call (ok_two_to T) (hr.mono (by decide)) T.m_two_to T.F_two_to.kp T.b_two_to (ja_c (jo_v 5 (pv 5)) (ja_n)))))) (
      jb_1 (js_ret (je_bin op_sub pr_sub (jo_e (je_bin or_add pr_add (jo_e (je_bin or_add pr_add (jo_e (je_call (ok_ahead_many T) (hr.mono (by decide)) T.m_ahead_many T.F_ahead_many.kp T.b_ahead_many (ja_c (jo_v 5 (pv 5)) (ja_n)))) (jo_e (je_call (ok_lots_ahead T) (hr.mono (by decide)) T.m_lots_ahead T.F_lots_ahead.kp T.b_lots_ahead (ja_c (jo_v 5 (pv 5)) (ja_c (jo_v 6 (pv 6)) (ja_n))))))) (jo_e (je_idx (u65 hr) (jo_v 4 (pv 4)) (jo_v 3 (pv 3)))))) (jo_e (je_call (ok_lowest_in T) (hr.mono (by decide)) T.m_lowest_in T.F_lowest_in.kp T.b_lowest_in (ja_c (jo_v 6 (pv 6)) (ja_n)))))))))))))
abbrev N__law_number_right : List Str := ["_law_row", "_law_number", "_law_whole", "_law_cottage_here"]
theorem sc__law_number_right : FnScope N__law_number_right ["_law_row", "_law_number", "_law_whole"] (defScope (top 31)) := ⟨rfl, rfl, rfl, by decide +kernel, rfl, by decide +kernel, by decide +kernel⟩
theorem ok__law_number_right (T : Txt K mg base) : Y.FnOk P w K mg base (L2.CX P w) 10 T.a__law_number_right T.d__law_number_right ["_law_row", "_law_number", "_law_whole"] (spY K (clK K) false 3 fn__law_number_right) := by
  unfold fn__law_number_right
  exact fn_ok T.F__law_number_right sc__law_number_right rfl rfl (by decide) fun cdv A outer s H E hr => show JB _ _ _ _ _ m__law_number_right from
      jb_c (js_set (i := 3) sc__law_number_right.nd rfl (by first | exact Or.inl rfl | exact Or.inr rfl) (by decide) (je_call (ok_came_at T) (hr.mono (by decide)) T.m_came_at T.F_came_at.kp T.b_came_at (ja_c (jo_v 0 (pv 0)) (ja_c (jo_v 1 (pv 1)) (ja_n))))) (
      jb_c (js_if (jt_w (jw_or (jt_cmp (or_ne hr.units) (nomark _) pr_ne (jo_e (je_callB (cr_sortD hr.units) pr_sorted (by rfl) T.z_sorted (by rfl) (ja_c (jo_e (je_bin or_add pr_add (jo_e (je_ix ix_seq pr_ix (jo_e (je_ix ix_seq pr_ix (jo_v 3 (pv 3)) (jo_e (je_int)) (fun _ _ => rfl))) (jo_e (je_int)) (fun _ _ => rfl))) (jo_e (je_ix ix_seq pr_ix (jo_e (je_ix ix_seq pr_ix (jo_v 3 (pv 3)) (jo_e (je_int)) (fun _ _ => rfl))) (jo_e (je_int)) (fun _ _ => rfl))))) (ja_n)))) (jo_v 0 (pv 0))) (jw_or (jt_not (jt_val (je_call (ok__law_is_come T) (hr.mono (by decide)) T.m__law_is_come T.F__law_is_come.kp T.b__law_is_come (ja_c (jo_v 3 (pv 3)) (ja_n))))) (jw_or1 (jt_cmp or_not (nomark _) pr_not (jo_e (je_call (ok_came T) (hr.mono (by decide)) T.m_came T.F_came.kp T.b_came (ja_c (jo_v 3 (pv 3)) (ja_n)))) (jo_e (je_bl))))))) (
      jb_1 (js_ret (je_bl))) (jb_nil)) (
      jb_c (js_if (jt_not (jt_val (je_call (ok__law_same T 8) (hr.mono (by decide)) T.m__law_same T.F__law_same.kp T.b__law_same (ja_c (jo_e (je_lst (ja_c (jo_e (je_call (ok_came_number T) (hr.mono (by decide)) T.m_came_number T.F_came_number.kp T.b_came_number (ja_c (jo_v 3 (pv 3)) (ja_n)))) (ja_c (jo_e (je_call (ok__law_number_due T) (hr.mono (by decide)) T.m__law_number_due T.F__law_number_due.kp T.b__law_number_due (ja_c (jo_v 3 (pv 3)) (ja_n)))) (ja_n))))) (ja_c (jo_e (je_lst (ja_c (jo_v 1 (pv 1)) (ja_c (jo_v 1 (pv 1)) (ja_n))))) (ja_n)))))) (
      jb_1 (js_ret (je_bl))) (jb_nil)) (
      jb_c (js_if (jt_w (jw_and (jt_cmp op_lt (nomark _) pr_lt (jo_e (je_bin or_add pr_add (jo_v 1 (pv 1)) (jo_e (je_int)))) (jo_v 2 (pv 2))) (jw_and1 (jt_not (jt_cmp (op_ltD hr.units) (nomark _) pr_ltD (jo_e (je_call (ok__law_standing_key T) (hr.mono (by decide)) T.m__law_standing_key T.F__law_standing_key.kp T.b__law_standing_key (ja_c (jo_v 3 (pv 3)) (ja_n)))) (jo_e (je_call (ok__law_standing_key T) (hr.mono (by decide)) T.m__law_standing_key T.F__law_standing_key.kp T.b__law_standing_key (ja_c (jo_e (je_call (ok_came_at T) (hr.mono (by decide)) T.m_came_at T.F_came_at.kp T.b_came_at (ja_c (jo_v 0 (pv 0)) (ja_c (jo_e (je_bin or_add pr_add (jo_v 1 (pv 1)) (jo_e (je_int)))) (ja_n))))) (ja_n))))))))) (
      jb_1 (js_ret (je_bl))) (jb_nil)) (
      jb_1 (js_ret (je_bl))))))
abbrev N__law_weights : List Str := ["_law_tape_here", "_law_many", "_law_step", "_law_found", "_law_at", "_law_k"]
theorem sc__law_weights : FnScope N__law_weights ["_law_tape_here", "_law_many"] (defScope (top 25)) := ⟨rfl, rfl, rfl, by decide +kernel, rfl, by decide +kernel, by decide +kernel⟩
theorem ok__law_weights (T : Txt K mg base) : Y.FnOk P w K mg base (L2.CX P w) 2 T.a__law_weights T.d__law_weights ["_law_tape_here", "_law_many"] (spY K (clK K) true 2 fn__law_weights) := by
  unfold fn__law_weights
  exact fn_ok T.F__law_weights sc__law_weights rfl rfl (by decide) fun cdv A outer s H E hr => show JB _ _ _ _ _ m__law_weights from
      jb_c (js_par2 (i := 2) (j := 3) rfl sc__law_weights.nd rfl rfl (by decide) rfl rfl (by decide) (je_ix ix_seq pr_ix (jo_e (je_lst (ja_c (jo_e (je_int)) (ja_c (jo_e (je_int)) (ja_c (jo_e (je_int)) (ja_c (jo_e (je_int)) (ja_c (jo_e (je_bin op_pow pr_pow (jo_e (je_int)) (jo_e (je_int)))) (ja_n)))))))) (jo_e (je_callI (i := 0) (ok__law_draw T) (hr.mono (by decide)) T.m__law_draw T.F__law_draw.kp T.b__law_draw (ja_c (jo_v 0 (pv 0)) (ja_c (jo_e (je_int)) (ja_n))))) (fun _ _ => rfl)) (je_lst (ja_n)) rfl) (
      jb_c (js_set (i := 4) sc__law_weights.nd rfl (by first | exact Or.inl rfl | exact Or.inr rfl) (by decide) (je_ix ix_seq pr_ix (jo_e (je_lst (ja_c (jo_e (je_int)) (ja_c (jo_e (je_int)) (ja_c (jo_e (je_callI (i := 0) (ok__law_draw T) (hr.mono (by decide)) T.m__law_draw T.F__law_draw.kp T.b__law_draw (ja_c (jo_v 0 (pv 0)) (ja_c (jo_e (je_int)) (ja_n))))) (ja_c (jo_e (je_bin op_sub pr_sub (jo_e (je_bin op_pow pr_pow (jo_e (je_int)) (jo_e (je_int)))) (jo_e (je_bin or_mul pr_mul (jo_e (je_int)) (jo_v 2 (pv 2)))))) (ja_n))))))) (jo_e (je_callI (i := 0) (ok__law_draw T) (hr.mono (by decide)) T.m__law_draw T.F__law_draw.kp T.b__law_draw (ja_c (jo_v 0 (pv 0)) (ja_c (jo_e (je_int)) (ja_n))))) (fun _ _ => rfl))) (
      jb_c (js_for (passes_of rfl) rfl (ji_rng1 (by rfl) T.z_range (jo_v 1 (pv 1))) (pg_name (i := 5) sc__law_weights.nd rfl (by first | exact Or.inl rfl | exact Or.inr rfl)) (tg_name (i := 5) (by decide)) (
      jb_c (js_set (i := 4) sc__law_weights.nd rfl (by first | exact Or.inl rfl | exact Or.inr rfl) (by decide) (je_bin or_add pr_add (jo_e (je_bin or_add pr_add (jo_v 4 (pv 4)) (jo_e (je_int)))) (jo_e (je_callI (i := 0) (ok__law_draw T) (hr.mono (by decide)) T.m__law_draw T.F__law_draw.kp T.b__law_draw (ja_c (jo_v 0 (pv 0)) (ja_c (jo_v 2 (pv 2)) (ja_n))))))) (
      jb_1 (js_app 3 (pv 3) (je_v 4 (pv 4)))))) (
      jb_1 (js_retV 3 (pv 3)))))
abbrev N__law_right : List Str := ["_law_tape_here", "_law_row", "_law_whole", "_law_numbers", "_law_turn", "_law_small", "_law_fewest_so", "_law_cottage_here", "_law_number", "_law_many"]
theorem sc__law_right : FnScope N__law_right ["_law_tape_here"] (defScope (top 32)) := ⟨rfl, rfl, rfl, by decide +kernel, rfl, by decide +kernel, by decide +kernel⟩
theorem ok__law_right (T : Txt K mg base) : Y.FnOk P w K mg base (L2.CX P w) 11 T.a__law_right T.d__law_right ["_law_tape_here"] (spY K (clK K) true 1 fn__law_right) := by
  unfold fn__law_right
  exact fn_ok T.F__law_right sc__law_right rfl rfl (by decide) fun cdv A outer s H E hr => show JB _ _ _ _ _ m__law_right from
      jb_c (js_set (i := 1) sc__law_right.nd rfl (by first | exact Or.inl rfl | exact Or.inr rfl) (by decide) (je_callI (i := 0) (ok__law_weights T) (hr.mono (by decide)) T.m__law_weights T.F__law_weights.kp T.b__law_weights (ja_c (jo_v 0 (pv 0)) (ja_c (jo_e (je_bin or_add pr_add (jo_e (je_int)) (jo_e (je_callI (i := 0) (ok__law_draw T) (hr.mono (by decide)) T.m__law_draw T.F__law_draw.kp T.b__law_draw (ja_c (jo_v 0 (pv 0)) (ja_c (jo_e (je_int)) (ja_n))))))) (ja_n))))) (
      jb_c (js_set (i := 2) sc__law_right.nd rfl (by first | exact Or.inl rfl | exact Or.inr rfl) (by decide) (je_call (ok__law_all_many T) (hr.mono (by decide)) T.m__law_all_many T.F__law_all_many.kp T.b__law_all_many (ja_c (jo_e (je_callB cr_len pr_len (by rfl) T.z_len (by rfl) (ja_c (jo_v 1 (pv 1)) (ja_n)))) (ja_n)))) (
      jb_c (js_if (jt_val (je_callB (cr_any rfl) pr_any (by rfl) T.z_any (by rfl) (ja_c (jo_e (je_lc (own := [("_law_many", 9)]) false rfl sc__law_right.nd (ji_rng1 (by rfl) T.z_range (jo_e (je_bin or_add pr_add (jo_e (je_callB cr_len pr_len (by rfl) T.z_len (by rfl) (ja_c (jo_v 1 (pv 1)) (ja_n)))) (jo_e (je_int))))) (blkOk_by (own := [("_law_many", 9)]) (N := N__law_right) (sc := (defScope (top 32))) (by decide +kernel)) (fun _ _ _ _ _ => pg_name (i := 9) sc__law_right.nd rfl (by first | exact Or.inl rfl | exact Or.inr rfl)) (tg_name (i := 9) (by decide)) (tw_name (i := 9) (by decide)) (fun _ _ _ _ _ => jts_nil) (fun _ _ _ _ _ => je_not (je_call (ok__law_same T 8) (hr.mono (by decide)) T.m__law_same T.F__law_same.kp T.b__law_same (ja_c (jo_e (je_call (ok_came_many T) (hr.mono (by decide)) T.m_came_many T.F_came_many.kp T.b_came_many (ja_c (jo_v 9 (pv 9)) (ja_n)))) (ja_c (jo_e (je_call (ok__law_all_many T) (hr.mono (by decide)) T.m__law_all_many T.F__law_all_many.kp T.b__law_all_many (ja_c (jo_v 9 (pv 9)) (ja_n)))) (ja_n))))))) (ja_n)))) (
      jb_1 (js_ret (je_bl))) (jb_nil)) (
      jb_c (js_set (i := 3) sc__law_right.nd rfl (by first | exact Or.inl rfl | exact Or.inr rfl) (by decide) (je_lst (ja_c (jo_e (je_int)) (ja_c (jo_e (je_int)) (ja_c (jo_e (je_bin op_sub pr_sub (jo_v 2 (pv 2)) (jo_e (je_int)))) (ja_c (jo_e (je_bin op_sub pr_sub (jo_v 2 (pv 2)) (jo_e (je_int)))) (ja_n))))))) (
      jb_c (js_for (passes_of rfl) rfl (ji_rng1 (by rfl) T.z_range (jo_e (je_int))) (pg_name (i := 4) sc__law_right.nd rfl (by first | exact Or.inl rfl | exact Or.inr rfl)) (tg_name (i := 4) (by decide)) (
      jb_c (js_set (i := 5) sc__law_right.nd rfl (by first | exact Or.inl rfl | exact Or.inr rfl) (by decide) (je_callI (i := 0) (ok__law_draw T) (hr.mono (by decide)) T.m__law_draw T.F__law_draw.kp T.b__law_draw (ja_c (jo_v 0 (pv 0)) (ja_c (jo_e (je_callB (call_min2 rfl) pr_min2 (by rfl) T.z_min (by rfl) (ja_c (jo_v 2 (pv 2)) (ja_c (jo_e (je_int)) (ja_n))))) (ja_n))))) (
      jb_c (js_set (i := 6) sc__law_right.nd rfl (by first | exact Or.inl rfl | exact Or.inr rfl) (by decide) (je_bin op_mod pr_mod (jo_e (je_bin or_add pr_add (jo_e (je_bin or_mul pr_mul (jo_e (je_callI (i := 0) (ok__law_draw T) (hr.mono (by decide)) T.m__law_draw T.F__law_draw.kp T.b__law_draw (ja_c (jo_v 0 (pv 0)) (ja_c (jo_e (je_bin op_pow pr_pow (jo_e (je_int)) (jo_e (je_int)))) (ja_n))))) (jo_e (je_bin op_pow pr_pow (jo_e (je_int)) (jo_e (je_int)))))) (jo_e (je_callI (i := 0) (ok__law_draw T) (hr.mono (by decide)) T.m__law_draw T.F__law_draw.kp T.b__law_draw (ja_c (jo_v 0 (pv 0)) (ja_c (jo_e (je_bin op_pow pr_pow (jo_e (je_int)) (jo_e (je_int)))) (ja_n))))))) (jo_v 2 (pv 2)))) (
      jb_1 (js_set (i := 3) sc__law_right.nd rfl (by first | exact Or.inl rfl | exact Or.inr rfl) (by decide) (je_bin or_add pr_add (jo_v 3 (pv 3)) (jo_e (je_lst (ja_c (jo_v 5 (pv 5)) (ja_c (jo_v 6 (pv 6)) (ja_c (jo_e (je_bin op_sub pr_sub (jo_e (je_bin op_sub pr_sub (jo_v 2 (pv 2)) (jo_e (je_int)))) (jo_v 6 (pv 6)))) (ja_n)))))))))))) (
      jb_c (js_if (jt_not (jt_val (je_callB (cr_all rfl) pr_all (by rfl) T.z_all (by rfl) (ja_c (jo_e (je_lc (own := [("_law_number", 8)]) false rfl sc__law_right.nd (ji_seq (jo_v 3 (pv 3))) (blkOk_by (own := [("_law_number", 8)]) (N := N__law_right) (sc := (defScope (top 32))) (by decide +kernel)) (fun _ _ _ _ _ => pg_name (i := 8) sc__law_right.nd rfl (by first | exact Or.inl rfl | exact Or.inr rfl)) (tg_name (i := 8) (by decide)) (tw_name (i := 8) (by decide)) (fun _ _ _ _ _ => jts_nil) (fun _ _ _ _ _ => je_call (ok__law_number_right T) (hr.mono (by decide)) T.m__law_number_right T.F__law_number_right.kp T.b__law_number_right (ja_c (jo_v 1 (pv 1)) (ja_c (jo_v 8 (pv 8)) (ja_c (jo_v 2 (pv 2)) (ja_n))))))) (ja_n))))) (
      jb_1 (js_ret (je_bl))) (jb_nil)) (
      jb_c (js_for (passes_of rfl) rfl (ji_rng1 (by rfl) T.z_range (jo_e (je_int))) (pg_name (i := 4) sc__law_right.nd rfl (by first | exact Or.inl rfl | exact Or.inr rfl)) (tg_name (i := 4) (by decide)) (
      jb_c (js_set (i := 7) sc__law_right.nd rfl (by first | exact Or.inl rfl | exact Or.inr rfl) (by decide) (je_callI (i := 0) (ok__law_cottage T) (hr.mono (by decide)) T.m__law_cottage T.F__law_cottage.kp T.b__law_cottage (ja_c (jo_v 0 (pv 0)) (ja_c (jo_v 1 (pv 1)) (ja_n))))) (
      jb_1 (js_if (jt_val (je_call (ok__law_is_come T) (hr.mono (by decide)) T.m__law_is_come T.F__law_is_come.kp T.b__law_is_come (ja_c (jo_v 7 (pv 7)) (ja_n)))) (
      jb_c (js_set (i := 8) sc__law_right.nd rfl (by first | exact Or.inl rfl | exact Or.inr rfl) (by decide) (je_call (ok_came_number T) (hr.mono (by decide)) T.m_came_number T.F_came_number.kp T.b_came_number (ja_c (jo_v 7 (pv 7)) (ja_n)))) (
      jb_c (js_if (jt_w (jw_or (jt_not (jt_val (je_call (ok__law_same T 8) (hr.mono (by decide)) T.m__law_same T.F__law_same.kp T.b__law_same (ja_c (jo_v 8 (pv 8)) (ja_c (jo_e (je_call (ok__law_number_due T) (hr.mono (by decide)) T.m__law_number_due T.F__law_number_due.kp T.b__law_number_due (ja_c (jo_v 7 (pv 7)) (ja_n)))) (ja_n)))))) (jw_or1 (jt_not (jt_chain op_le op_lt pr_le pr_lt (jo_e (je_int)) (jo_v 8 (pv 8)) (jo_v 2 (pv 2))))))) (
      jb_1 (js_ret (je_bl))) (jb_nil)) (
      jb_1 (js_if (jt_not (jt_val (je_call (ok__law_same T 8) (hr.mono (by decide)) T.m__law_same T.F__law_same.kp T.b__law_same (ja_c (jo_e (je_call (ok_came_at T) (hr.mono (by decide)) T.m_came_at T.F_came_at.kp T.b_came_at (ja_c (jo_v 1 (pv 1)) (ja_c (jo_v 8 (pv 8)) (ja_n))))) (ja_c (jo_v 7 (pv 7)) (ja_n)))))) (
      jb_1 (js_ret (je_bl))) (jb_nil))))) (jb_nil))))) (
      jb_1 (js_ret (je_bl)))))))))
abbrev N__law_tape : List Str := ["_law_script", "_law_k", "_law_cell"]
theorem sc__law_tape : FnScope N__law_tape ["_law_script", "_law_k"] (defScope (top 21)) := ⟨rfl, rfl, rfl, by decide +kernel, rfl, by decide +kernel, by decide +kernel⟩
theorem ok__law_tape (T : Txt K mg base) : Y.FnOk P w K mg base (L2.CX P w) 1 T.a__law_tape T.d__law_tape ["_law_script", "_law_k"] (spY K (clK K) false 2 fn__law_tape) := by
  unfold fn__law_tape
  exact fn_ok T.F__law_tape sc__law_tape rfl rfl (by decide) fun cdv A outer s H E hr => show JB _ _ _ _ _ m__law_tape from
      jb_c (js_set (i := 2) sc__law_tape.nd rfl (by first | exact Or.inl rfl | exact Or.inr rfl) (by decide) (je_if (jt_cmp op_lt (nomark _) pr_lt (jo_v 1 (pv 1)) (jo_e (je_callB cr_len pr_len (by rfl) T.z_len (by rfl) (ja_c (jo_v 0 (pv 0)) (ja_n))))) (je_ix ix_seq pr_ix (jo_v 0 (pv 0)) (jo_v 1 (pv 1)) (fun _ _ => rfl)) (je_int))) (
      jb_1 (js_ret (je_lst (ja_c (jo_e (je_bin or_mul pr_mul (jo_e (je_callB call_abs pr_abs (by rfl) T.z_abs (by rfl) (ja_c (jo_v 2 (pv 2)) (ja_n)))) (jo_e (je_callT call_int1 pr_int (by rfl) T.z_int (by rfl) (ja_c (jo_e (je_cmp op_ge (nomark _) pr_ge (jo_e (je_callB call_abs pr_abs (by rfl) T.z_abs (by rfl) (ja_c (jo_v 2 (pv 2)) (ja_n)))) (jo_e (je_bin op_pow pr_pow (jo_e (je_int)) (jo_e (je_int)))))) (ja_n)))))) (ja_c (jo_e (je_bin or_add pr_add (jo_e (je_bin or_add pr_add (jo_e (je_bin op_mod pr_mod (jo_v 2 (pv 2)) (jo_e (je_int)))) (jo_e (je_bin or_mul pr_mul (jo_e (je_int)) (jo_v 1 (pv 1)))))) (jo_e (je_int)))) (ja_c (jo_e (je_int)) (ja_n)))))))
abbrev N_law : List Str := ["_law_script", "_law_cells", "_law_k"]
theorem sc_law : FnScope N_law ["_law_script"] (defScope (top 33)) := ⟨rfl, rfl, rfl, by decide +kernel, rfl, by decide +kernel, by decide +kernel⟩
theorem ok_law (T : Txt K mg base) : Y.FnOk P w K mg base (L2.CX P w) 12 T.a_law T.d_law ["_law_script"] (spY K (clK K) false 1 fn_law) := by
  unfold fn_law
  exact fn_ok T.F_law sc_law rfl rfl (by decide) fun cdv A outer s H E hr => show JB _ _ _ _ _ m_law from
      jb_c (js_set (i := 1) sc_law.nd rfl (by first | exact Or.inl rfl | exact Or.inr rfl) (by decide) (je_call (ok__law_folded T) (hr.mono (by decide)) T.m__law_folded T.F__law_folded.kp T.b__law_folded (ja_c (jo_v 0 (pv 0)) (ja_c (jo_e (je_int)) (ja_n))))) (
      jb_1 (js_ret (je_callB (cr_all rfl) pr_all (by rfl) T.z_all (by rfl) (ja_c (jo_e (je_lc (own := [("_law_k", 2)]) false rfl sc_law.nd (ji_rng1 (by rfl) T.z_range (jo_e (je_callB (call_max2 rfl) pr_max2 (by rfl) T.z_max (by rfl) (ja_c (jo_e (je_int)) (ja_c (jo_e (je_callB cr_len pr_len (by rfl) T.z_len (by rfl) (ja_c (jo_v 1 (pv 1)) (ja_n)))) (ja_n)))))) (blkOk_by (own := [("_law_k", 2)]) (N := N_law) (sc := (defScope (top 33))) (by decide +kernel)) (fun _ _ _ _ _ => pg_name (i := 2) sc_law.nd rfl (by first | exact Or.inl rfl | exact Or.inr rfl)) (tg_name (i := 2) (by decide)) (tw_name (i := 2) (by decide)) (fun _ _ _ _ _ => jts_nil) (fun _ _ _ _ _ => je_callM (ok__law_right T) (hr.mono (by decide)) T.m__law_right T.F__law_right.kp T.b__law_right (ja_c (jo_e (je_call (ok__law_tape T) (hr.mono (by decide)) T.m__law_tape T.F__law_tape.kp T.b__law_tape (ja_c (jo_v 1 (pv 1)) (ja_c (jo_v 2 (pv 2)) (ja_n))))) (ja_n))))) (ja_n)))))
end
theorem all_mk {l : PySem.W.OpenLaw} {w : World} {K : PySem.W.Frag} {h : Heap} {mg : Str → Option Value} {fa : Addr} (X : K.In h) (G : h.Ns mainGlobals mg) (hfa : mg "law" = some (.ref fa))
    {f0 : Addr} {od0 an0 : Option Addr} {sl0 : Array (Option Value)} {oc0 kV0 dc0 pm0 cd0 ct0 : Value}
    (a0 : PySem.W.nsIn K mainGlobals "_law_folded" = some (some (.ref f0)))
    (l0 : K.lookup f0 = some ⟨oc0, od0, .func (PySem.W.fnOf "_law_folded" "_law_folded" (defArgs (top 23)) (defBody (top 23)) (defScope (top 23)) .none kV0 dc0 pm0 an0 cd0 ct0), sl0⟩) (c0 : PySem.W.codeIn K cd0 "_law_folded" = true) (k0 : PySem.W.keepIn K (.ref f0) = true)
    {f1 : Addr} {od1 an1 : Option Addr} {sl1 : Array (Option Value)} {oc1 kV1 dc1 pm1 cd1 ct1 : Value}
    (a1 : PySem.W.nsIn K mainGlobals "_law_all_many" = some (some (.ref f1)))
    (l1 : K.lookup f1 = some ⟨oc1, od1, .func (PySem.W.fnOf "_law_all_many" "_law_all_many" (defArgs (top 30)) (defBody (top 30)) (defScope (top 30)) .none kV1 dc1 pm1 an1 cd1 ct1), sl1⟩) (c1 : PySem.W.codeIn K cd1 "_law_all_many" = true) (k1 : PySem.W.keepIn K (.ref f1) = true)
    {f2 : Addr} {od2 an2 : Option Addr} {sl2 : Array (Option Value)} {oc2 kV2 dc2 pm2 cd2 ct2 : Value}
    (a2 : PySem.W.nsIn K mainGlobals "_law_draw" = some (some (.ref f2)))
    (l2 : K.lookup f2 = some ⟨oc2, od2, .func (PySem.W.fnOf "_law_draw" "_law_draw" (defArgs (top 22)) (defBody (top 22)) (defScope (top 22)) .none kV2 dc2 pm2 an2 cd2 ct2), sl2⟩) (c2 : PySem.W.codeIn K cd2 "_law_draw" = true) (k2 : PySem.W.keepIn K (.ref f2) = true)
    {f3 : Addr} {od3 an3 : Option Addr} {sl3 : Array (Option Value)} {oc3 kV3 dc3 pm3 cd3 ct3 : Value}
    (a3 : PySem.W.nsIn K mainGlobals "_law_cottage" = some (some (.ref f3)))
    (l3 : K.lookup f3 = some ⟨oc3, od3, .func (PySem.W.fnOf "_law_cottage" "_law_cottage" (defArgs (top 26)) (defBody (top 26)) (defScope (top 26)) .none kV3 dc3 pm3 an3 cd3 ct3), sl3⟩) (c3 : PySem.W.codeIn K cd3 "_law_cottage" = true) (k3 : PySem.W.keepIn K (.ref f3) = true)
    {f4 : Addr} {od4 an4 : Option Addr} {sl4 : Array (Option Value)} {oc4 kV4 dc4 pm4 cd4 ct4 : Value}
    (a4 : PySem.W.nsIn K mainGlobals "_law_is_come" = some (some (.ref f4)))
    (l4 : K.lookup f4 = some ⟨oc4, od4, .func (PySem.W.fnOf "_law_is_come" "_law_is_come" (defArgs (top 27)) (defBody (top 27)) (defScope (top 27)) .none kV4 dc4 pm4 an4 cd4 ct4), sl4⟩) (c4 : PySem.W.codeIn K cd4 "_law_is_come" = true) (k4 : PySem.W.keepIn K (.ref f4) = true)
    {f5 : Addr} {od5 an5 : Option Addr} {sl5 : Array (Option Value)} {oc5 kV5 dc5 pm5 cd5 ct5 : Value}
    (a5 : PySem.W.nsIn K mainGlobals "_law_number_due" = some (some (.ref f5)))
    (l5 : K.lookup f5 = some ⟨oc5, od5, .func (PySem.W.fnOf "_law_number_due" "_law_number_due" (defArgs (top 29)) (defBody (top 29)) (defScope (top 29)) .none kV5 dc5 pm5 an5 cd5 ct5), sl5⟩) (c5 : PySem.W.codeIn K cd5 "_law_number_due" = true) (k5 : PySem.W.keepIn K (.ref f5) = true)
    {f6 : Addr} {od6 an6 : Option Addr} {sl6 : Array (Option Value)} {oc6 kV6 dc6 pm6 cd6 ct6 : Value}
    (a6 : PySem.W.nsIn K mainGlobals "_law_same" = some (some (.ref f6)))
    (l6 : K.lookup f6 = some ⟨oc6, od6, .func (PySem.W.fnOf "_law_same" "_law_same" (defArgs (top 24)) (defBody (top 24)) (defScope (top 24)) .none kV6 dc6 pm6 an6 cd6 ct6), sl6⟩) (c6 : PySem.W.codeIn K cd6 "_law_same" = true) (k6 : PySem.W.keepIn K (.ref f6) = true)
    {f7 : Addr} {od7 an7 : Option Addr} {sl7 : Array (Option Value)} {oc7 kV7 dc7 pm7 cd7 ct7 : Value}
    (a7 : PySem.W.nsIn K mainGlobals "_law_standing_key" = some (some (.ref f7)))
    (l7 : K.lookup f7 = some ⟨oc7, od7, .func (PySem.W.fnOf "_law_standing_key" "_law_standing_key" (defArgs (top 28)) (defBody (top 28)) (defScope (top 28)) .none kV7 dc7 pm7 an7 cd7 ct7), sl7⟩) (c7 : PySem.W.codeIn K cd7 "_law_standing_key" = true) (k7 : PySem.W.keepIn K (.ref f7) = true)
    {f8 : Addr} {od8 an8 : Option Addr} {sl8 : Array (Option Value)} {oc8 kV8 dc8 pm8 cd8 ct8 : Value}
    (a8 : PySem.W.nsIn K mainGlobals "is_come" = some (some (.ref f8)))
    (l8 : K.lookup f8 = some ⟨oc8, od8, .func (PySem.W.fnOf "is_come" "is_come" (defArgs (top 11)) (defBody (top 11)) (defScope (top 11)) .none kV8 dc8 pm8 an8 cd8 ct8), sl8⟩) (c8 : PySem.W.codeIn K cd8 "is_come" = true) (k8 : PySem.W.keepIn K (.ref f8) = true)
    {f9 : Addr} {od9 an9 : Option Addr} {sl9 : Array (Option Value)} {oc9 kV9 dc9 pm9 cd9 ct9 : Value}
    (a9 : PySem.W.nsIn K mainGlobals "look_one" = some (some (.ref f9)))
    (l9 : K.lookup f9 = some ⟨oc9, od9, .func (PySem.W.fnOf "look_one" "look_one" (defArgs (top 9)) (defBody (top 9)) (defScope (top 9)) .none kV9 dc9 pm9 an9 cd9 ct9), sl9⟩) (c9 : PySem.W.codeIn K cd9 "look_one" = true) (k9 : PySem.W.keepIn K (.ref f9) = true)
    {f10 : Addr} {od10 an10 : Option Addr} {sl10 : Array (Option Value)} {oc10 kV10 dc10 pm10 cd10 ct10 : Value}
    (a10 : PySem.W.nsIn K mainGlobals "came" = some (some (.ref f10)))
    (l10 : K.lookup f10 = some ⟨oc10, od10, .func (PySem.W.fnOf "came" "came" (defArgs (top 12)) (defBody (top 12)) (defScope (top 12)) .none kV10 dc10 pm10 an10 cd10 ct10), sl10⟩) (c10 : PySem.W.codeIn K cd10 "came" = true) (k10 : PySem.W.keepIn K (.ref f10) = true)
    {f11 : Addr} {od11 an11 : Option Addr} {sl11 : Array (Option Value)} {oc11 kV11 dc11 pm11 cd11 ct11 : Value}
    (a11 : PySem.W.nsIn K mainGlobals "two_to" = some (some (.ref f11)))
    (l11 : K.lookup f11 = some ⟨oc11, od11, .func (PySem.W.fnOf "two_to" "two_to" (defArgs (top 5)) (defBody (top 5)) (defScope (top 5)) .none kV11 dc11 pm11 an11 cd11 ct11), sl11⟩) (c11 : PySem.W.codeIn K cd11 "two_to" = true) (k11 : PySem.W.keepIn K (.ref f11) = true)
    {f12 : Addr} {od12 an12 : Option Addr} {sl12 : Array (Option Value)} {oc12 kV12 dc12 pm12 cd12 ct12 : Value}
    (a12 : PySem.W.nsIn K mainGlobals "ahead_many" = some (some (.ref f12)))
    (l12 : K.lookup f12 = some ⟨oc12, od12, .func (PySem.W.fnOf "ahead_many" "ahead_many" (defArgs (top 13)) (defBody (top 13)) (defScope (top 13)) .none kV12 dc12 pm12 an12 cd12 ct12), sl12⟩) (c12 : PySem.W.codeIn K cd12 "ahead_many" = true) (k12 : PySem.W.keepIn K (.ref f12) = true)
    {f13 : Addr} {od13 an13 : Option Addr} {sl13 : Array (Option Value)} {oc13 kV13 dc13 pm13 cd13 ct13 : Value}
    (a13 : PySem.W.nsIn K mainGlobals "came_many" = some (some (.ref f13)))
    (l13 : K.lookup f13 = some ⟨oc13, od13, .func (PySem.W.fnOf "came_many" "came_many" (defArgs (top 14)) (defBody (top 14)) (defScope (top 14)) .none kV13 dc13 pm13 an13 cd13 ct13), sl13⟩) (c13 : PySem.W.codeIn K cd13 "came_many" = true) (k13 : PySem.W.keepIn K (.ref f13) = true)
    {f14 : Addr} {od14 an14 : Option Addr} {sl14 : Array (Option Value)} {oc14 kV14 dc14 pm14 cd14 ct14 : Value}
    (a14 : PySem.W.nsIn K mainGlobals "greatest_fit" = some (some (.ref f14)))
    (l14 : K.lookup f14 = some ⟨oc14, od14, .func (PySem.W.fnOf "greatest_fit" "greatest_fit" (defArgs (top 17)) (defBody (top 17)) (defScope (top 17)) .none kV14 dc14 pm14 an14 cd14 ct14), sl14⟩) (c14 : PySem.W.codeIn K cd14 "greatest_fit" = true) (k14 : PySem.W.keepIn K (.ref f14) = true)
    {f15 : Addr} {od15 an15 : Option Addr} {sl15 : Array (Option Value)} {oc15 kV15 dc15 pm15 cd15 ct15 : Value}
    (a15 : PySem.W.nsIn K mainGlobals "ones_in" = some (some (.ref f15)))
    (l15 : K.lookup f15 = some ⟨oc15, od15, .func (PySem.W.fnOf "ones_in" "ones_in" (defArgs (top 7)) (defBody (top 7)) (defScope (top 7)) .none kV15 dc15 pm15 an15 cd15 ct15), sl15⟩) (c15 : PySem.W.codeIn K cd15 "ones_in" = true) (k15 : PySem.W.keepIn K (.ref f15) = true)
    {f16 : Addr} {od16 an16 : Option Addr} {sl16 : Array (Option Value)} {oc16 kV16 dc16 pm16 cd16 ct16 : Value}
    (a16 : PySem.W.nsIn K mainGlobals "lots_ahead" = some (some (.ref f16)))
    (l16 : K.lookup f16 = some ⟨oc16, od16, .func (PySem.W.fnOf "lots_ahead" "lots_ahead" (defArgs (top 15)) (defBody (top 15)) (defScope (top 15)) .none kV16 dc16 pm16 an16 cd16 ct16), sl16⟩) (c16 : PySem.W.codeIn K cd16 "lots_ahead" = true) (k16 : PySem.W.keepIn K (.ref f16) = true)
    {f17 : Addr} {od17 an17 : Option Addr} {sl17 : Array (Option Value)} {oc17 kV17 dc17 pm17 cd17 ct17 : Value}
    (a17 : PySem.W.nsIn K mainGlobals "lowest_in" = some (some (.ref f17)))
    (l17 : K.lookup f17 = some ⟨oc17, od17, .func (PySem.W.fnOf "lowest_in" "lowest_in" (defArgs (top 16)) (defBody (top 16)) (defScope (top 16)) .none kV17 dc17 pm17 an17 cd17 ct17), sl17⟩) (c17 : PySem.W.codeIn K cd17 "lowest_in" = true) (k17 : PySem.W.keepIn K (.ref f17) = true)
    {f18 : Addr} {od18 an18 : Option Addr} {sl18 : Array (Option Value)} {oc18 kV18 dc18 pm18 cd18 ct18 : Value}
    (a18 : PySem.W.nsIn K mainGlobals "came_at" = some (some (.ref f18)))
    (l18 : K.lookup f18 = some ⟨oc18, od18, .func (PySem.W.fnOf "came_at" "came_at" (defArgs (top 18)) (defBody (top 18)) (defScope (top 18)) .none kV18 dc18 pm18 an18 cd18 ct18), sl18⟩) (c18 : PySem.W.codeIn K cd18 "came_at" = true) (k18 : PySem.W.keepIn K (.ref f18) = true)
    {f19 : Addr} {od19 an19 : Option Addr} {sl19 : Array (Option Value)} {oc19 kV19 dc19 pm19 cd19 ct19 : Value}
    (a19 : PySem.W.nsIn K mainGlobals "came_number" = some (some (.ref f19)))
    (l19 : K.lookup f19 = some ⟨oc19, od19, .func (PySem.W.fnOf "came_number" "came_number" (defArgs (top 19)) (defBody (top 19)) (defScope (top 19)) .none kV19 dc19 pm19 an19 cd19 ct19), sl19⟩) (c19 : PySem.W.codeIn K cd19 "came_number" = true) (k19 : PySem.W.keepIn K (.ref f19) = true)
    {f20 : Addr} {od20 an20 : Option Addr} {sl20 : Array (Option Value)} {oc20 kV20 dc20 pm20 cd20 ct20 : Value}
    (a20 : PySem.W.nsIn K mainGlobals "_law_number_right" = some (some (.ref f20)))
    (l20 : K.lookup f20 = some ⟨oc20, od20, .func (PySem.W.fnOf "_law_number_right" "_law_number_right" (defArgs (top 31)) (defBody (top 31)) (defScope (top 31)) .none kV20 dc20 pm20 an20 cd20 ct20), sl20⟩) (c20 : PySem.W.codeIn K cd20 "_law_number_right" = true) (k20 : PySem.W.keepIn K (.ref f20) = true)
    {f21 : Addr} {od21 an21 : Option Addr} {sl21 : Array (Option Value)} {oc21 kV21 dc21 pm21 cd21 ct21 : Value}
    (a21 : PySem.W.nsIn K mainGlobals "_law_weights" = some (some (.ref f21)))
    (l21 : K.lookup f21 = some ⟨oc21, od21, .func (PySem.W.fnOf "_law_weights" "_law_weights" (defArgs (top 25)) (defBody (top 25)) (defScope (top 25)) .none kV21 dc21 pm21 an21 cd21 ct21), sl21⟩) (c21 : PySem.W.codeIn K cd21 "_law_weights" = true) (k21 : PySem.W.keepIn K (.ref f21) = true)
    {f22 : Addr} {od22 an22 : Option Addr} {sl22 : Array (Option Value)} {oc22 kV22 dc22 pm22 cd22 ct22 : Value}
    (a22 : PySem.W.nsIn K mainGlobals "_law_right" = some (some (.ref f22)))
    (l22 : K.lookup f22 = some ⟨oc22, od22, .func (PySem.W.fnOf "_law_right" "_law_right" (defArgs (top 32)) (defBody (top 32)) (defScope (top 32)) .none kV22 dc22 pm22 an22 cd22 ct22), sl22⟩) (c22 : PySem.W.codeIn K cd22 "_law_right" = true) (k22 : PySem.W.keepIn K (.ref f22) = true)
    {f23 : Addr} {od23 an23 : Option Addr} {sl23 : Array (Option Value)} {oc23 kV23 dc23 pm23 cd23 ct23 : Value}
    (a23 : PySem.W.nsIn K mainGlobals "_law_tape" = some (some (.ref f23)))
    (l23 : K.lookup f23 = some ⟨oc23, od23, .func (PySem.W.fnOf "_law_tape" "_law_tape" (defArgs (top 21)) (defBody (top 21)) (defScope (top 21)) .none kV23 dc23 pm23 an23 cd23 ct23), sl23⟩) (c23 : PySem.W.codeIn K cd23 "_law_tape" = true) (k23 : PySem.W.keepIn K (.ref f23) = true)
    {f24 : Addr} {od24 an24 : Option Addr} {sl24 : Array (Option Value)} {oc24 kV24 dc24 pm24 cd24 ct24 : Value}
    (a24 : PySem.W.nsIn K mainGlobals "law" = some (some (.ref f24)))
    (l24 : K.lookup f24 = some ⟨oc24, od24, .func (PySem.W.fnOf "law" "law" (defArgs (top 33)) (defBody (top 33)) (defScope (top 33)) .none kV24 dc24 pm24 an24 cd24 ct24), sl24⟩) (c24 : PySem.W.codeIn K cd24 "law" = true) (k24 : PySem.W.keepIn K (.ref f24) = true)
    (z_abs : PySem.W.nsIn K mainGlobals "abs" = some none)
    (z_all : PySem.W.nsIn K mainGlobals "all" = some none)
    (z_any : PySem.W.nsIn K mainGlobals "any" = some none)
    (z_bool : PySem.W.nsIn K mainGlobals "bool" = some none)
    (z_enumerate : PySem.W.nsIn K mainGlobals "enumerate" = some none)
    (z_int : PySem.W.nsIn K mainGlobals "int" = some none)
    (z_isinstance : PySem.W.nsIn K mainGlobals "isinstance" = some none)
    (z_len : PySem.W.nsIn K mainGlobals "len" = some none)
    (z_list : PySem.W.nsIn K mainGlobals "list" = some none)
    (z_max : PySem.W.nsIn K mainGlobals "max" = some none)
    (z_min : PySem.W.nsIn K mainGlobals "min" = some none)
    (z_range : PySem.W.nsIn K mainGlobals "range" = some none)
    (z_sorted : PySem.W.nsIn K mainGlobals "sorted" = some none)
    (z_str : PySem.W.nsIn K mainGlobals "str" = some none)
    (z_sum : PySem.W.nsIn K mainGlobals "sum" = some none)
    (z_tuple : PySem.W.nsIn K mainGlobals "tuple" = some none)
    (z_zip : PySem.W.nsIn K mainGlobals "zip" = some none)
    {cL PL : Addr} {coL : Obj} {vsL : Array Value} {qL : Program} {dL : DefRec} (tl1 : cd18 = .ref cL) (tl2 : K.lookup cL = some coL) (tl3 : coL.data = .fields vsL) (tl4 : vsL[11]? = some (.ref PL)) (tl5 : K.lookup PL = none) (tl6 : (recsOf qL).find? (fun e => e.name == PySem.Str.ofString "came_at") = some dL) (nl_1 : PySem.W.nsIn K mainGlobals "tail" = some none)
    : ∃ fd : FuncData, (∀ (s : Shared) (v : Value), BindsTo s fd ⟨[v], []⟩ [("_law_script", v)]) ∧ (∀ y ∈ lamNames, LamFact qL K y) ∧ ∀ base : Heap, K.In base → base.Ns mainGlobals mg → (∀ p ∈ tabsOf K, LamX.TabB base mg p.1 p.2) → Y.FnOk l.prog w K mg base (L2.CX l.prog w) 12 fa fd ["_law_script"] (spY K (clK K) false 1 fn_law) := by
  have e := hfa.symm.trans (PySem.W.mg_of X G a24)
  cases e
  have F0 := fun_mk (st := (top 23)) l0 c0 k0
  have F1 := fun_mk (st := (top 30)) l1 c1 k1
  have F2 := fun_mk (st := (top 22)) l2 c2 k2
  have F3 := fun_mk (st := (top 26)) l3 c3 k3
  have F4 := fun_mk (st := (top 27)) l4 c4 k4
  have F5 := fun_mk (st := (top 29)) l5 c5 k5
  have F6 := fun_mk (st := (top 24)) l6 c6 k6
  have F7 := fun_mk (st := (top 28)) l7 c7 k7
  have F8 := fun_mk (st := (top 11)) l8 c8 k8
  have F9 := fun_mk (st := (top 9)) l9 c9 k9
  have F10 := fun_mk (st := (top 12)) l10 c10 k10
  have F11 := fun_mk (st := (top 5)) l11 c11 k11
  have F12 := fun_mk (st := (top 13)) l12 c12 k12
  have F13 := fun_mk (st := (top 14)) l13 c13 k13
  have F14 := fun_mk (st := (top 17)) l14 c14 k14
  have F15 := fun_mk (st := (top 7)) l15 c15 k15
  have F16 := fun_mk (st := (top 15)) l16 c16 k16
  have F17 := fun_mk (st := (top 16)) l17 c17 k17
  have F18 := fun_mk (st := (top 18)) l18 c18 k18
  have F19 := fun_mk (st := (top 19)) l19 c19 k19
  have F20 := fun_mk (st := (top 31)) l20 c20 k20
  have F21 := fun_mk (st := (top 25)) l21 c21 k21
  have F22 := fun_mk (st := (top 32)) l22 c22 k22
  have F23 := fun_mk (st := (top 21)) l23 c23 k23
  have F24 := fun_mk (st := (top 33)) l24 c24 k24
  exact ⟨PySem.W.fnOf "law" "law" (defArgs (top 33)) (defBody (top 33)) (defScope (top 33)) .none kV24 dc24 pm24 an24 cd24 ct24, fun s v => .of_eq rfl, (fun y hy => by
    rcases List.mem_cons.mp hy with rfl | hy
    · exact .inr ⟨dL, cL, PL, tl6, tab_mk a18 l18 tl1 tl2 tl3 tl4, tl5⟩
    · rw [List.mem_singleton.mp hy]; exact .inl nl_1), fun base _ _ tbL => ok_law
    { a__law_folded := f0, d__law_folded := _, F__law_folded := F0, b__law_folded := F0.binds fun _ _ _ _ _ _ us hl => match us, hl with | [_, _], _ => rfl, m__law_folded := PySem.W.mg_of X G a0,
      a__law_all_many := f1, d__law_all_many := _, F__law_all_many := F1, b__law_all_many := F1.binds fun _ _ _ _ _ _ us hl => match us, hl with | [_], _ => rfl, m__law_all_many := PySem.W.mg_of X G a1,
      a__law_draw := f2, d__law_draw := _, F__law_draw := F2, b__law_draw := F2.binds fun _ _ _ _ _ _ us hl => match us, hl with | [_, _], _ => rfl, m__law_draw := PySem.W.mg_of X G a2,
      a__law_cottage := f3, d__law_cottage := _, F__law_cottage := F3, b__law_cottage := F3.binds fun _ _ _ _ _ _ us hl => match us, hl with | [_, _], _ => rfl, m__law_cottage := PySem.W.mg_of X G a3,
      a__law_is_come := f4, d__law_is_come := _, F__law_is_come := F4, b__law_is_come := F4.binds fun _ _ _ _ _ _ us hl => match us, hl with | [_], _ => rfl, m__law_is_come := PySem.W.mg_of X G a4,
      a__law_number_due := f5, d__law_number_due := _, F__law_number_due := F5, b__law_number_due := F5.binds fun _ _ _ _ _ _ us hl => match us, hl with | [_], _ => rfl, m__law_number_due := PySem.W.mg_of X G a5,
      a__law_same := f6, d__law_same := _, F__law_same := F6, b__law_same := F6.binds fun _ _ _ _ _ _ us hl => match us, hl with | [_, _], _ => rfl, m__law_same := PySem.W.mg_of X G a6,
      a__law_standing_key := f7, d__law_standing_key := _, F__law_standing_key := F7, b__law_standing_key := F7.binds fun _ _ _ _ _ _ us hl => match us, hl with | [_], _ => rfl, m__law_standing_key := PySem.W.mg_of X G a7,
      a_is_come := f8, d_is_come := _, F_is_come := F8, b_is_come := F8.binds fun _ _ _ _ _ _ us hl => match us, hl with | [_], _ => rfl, m_is_come := PySem.W.mg_of X G a8,
      a_look_one := f9, d_look_one := _, F_look_one := F9, b_look_one := F9.binds fun _ _ _ _ _ _ us hl => match us, hl with | [_], _ => rfl, m_look_one := PySem.W.mg_of X G a9,
      a_came := f10, d_came := _, F_came := F10, b_came := F10.binds fun _ _ _ _ _ _ us hl => match us, hl with | [_], _ => rfl, m_came := PySem.W.mg_of X G a10,
      a_two_to := f11, d_two_to := _, F_two_to := F11, b_two_to := F11.binds fun _ _ _ _ _ _ us hl => match us, hl with | [_], _ => rfl, m_two_to := PySem.W.mg_of X G a11,
      a_ahead_many := f12, d_ahead_many := _, F_ahead_many := F12, b_ahead_many := F12.binds fun _ _ _ _ _ _ us hl => match us, hl with | [_], _ => rfl, m_ahead_many := PySem.W.mg_of X G a12,
      a_came_many := f13, d_came_many := _, F_came_many := F13, b_came_many := F13.binds fun _ _ _ _ _ _ us hl => match us, hl with | [_], _ => rfl, m_came_many := PySem.W.mg_of X G a13,
      a_greatest_fit := f14, d_greatest_fit := _, F_greatest_fit := F14, b_greatest_fit := F14.binds fun _ _ _ _ _ _ us hl => match us, hl with | [_, _, _], _ => rfl, m_greatest_fit := PySem.W.mg_of X G a14,
      a_ones_in := f15, d_ones_in := _, F_ones_in := F15, b_ones_in := F15.binds fun _ _ _ _ _ _ us hl => match us, hl with | [_], _ => rfl, m_ones_in := PySem.W.mg_of X G a15,
      a_lots_ahead := f16, d_lots_ahead := _, F_lots_ahead := F16, b_lots_ahead := F16.binds fun _ _ _ _ _ _ us hl => match us, hl with | [_, _], _ => rfl, m_lots_ahead := PySem.W.mg_of X G a16,
      a_lowest_in := f17, d_lowest_in := _, F_lowest_in := F17, b_lowest_in := F17.binds fun _ _ _ _ _ _ us hl => match us, hl with | [_], _ => rfl, m_lowest_in := PySem.W.mg_of X G a17,
      a_came_at := f18, d_came_at := _, F_came_at := F18, b_came_at := F18.binds fun _ _ _ _ _ _ us hl => match us, hl with | [_, _], _ => rfl, m_came_at := PySem.W.mg_of X G a18, fv_came_at := a18,
      a_came_number := f19, d_came_number := _, F_came_number := F19, b_came_number := F19.binds fun _ _ _ _ _ _ us hl => match us, hl with | [_], _ => rfl, m_came_number := PySem.W.mg_of X G a19,
      a__law_number_right := f20, d__law_number_right := _, F__law_number_right := F20, b__law_number_right := F20.binds fun _ _ _ _ _ _ us hl => match us, hl with | [_, _, _], _ => rfl, m__law_number_right := PySem.W.mg_of X G a20,
      a__law_weights := f21, d__law_weights := _, F__law_weights := F21, b__law_weights := F21.binds fun _ _ _ _ _ _ us hl => match us, hl with | [_, _], _ => rfl, m__law_weights := PySem.W.mg_of X G a21,
      a__law_right := f22, d__law_right := _, F__law_right := F22, b__law_right := F22.binds fun _ _ _ _ _ _ us hl => match us, hl with | [_], _ => rfl, m__law_right := PySem.W.mg_of X G a22,
      a__law_tape := f23, d__law_tape := _, F__law_tape := F23, b__law_tape := F23.binds fun _ _ _ _ _ _ us hl => match us, hl with | [_, _], _ => rfl, m__law_tape := PySem.W.mg_of X G a23,
      a_law := fa, d_law := _, F_law := F24, b_law := F24.binds fun _ _ _ _ _ _ us hl => match us, hl with | [_], _ => rfl, m_law := PySem.W.mg_of X G a24,
      z_abs := PySem.W.mg_none_of X G z_abs,
      z_all := PySem.W.mg_none_of X G z_all,
      z_any := PySem.W.mg_none_of X G z_any,
      z_bool := PySem.W.mg_none_of X G z_bool,
      z_enumerate := PySem.W.mg_none_of X G z_enumerate,
      z_int := PySem.W.mg_none_of X G z_int,
      z_isinstance := PySem.W.mg_none_of X G z_isinstance,
      z_len := PySem.W.mg_none_of X G z_len,
      z_list := PySem.W.mg_none_of X G z_list,
      z_max := PySem.W.mg_none_of X G z_max,
      z_min := PySem.W.mg_none_of X G z_min,
      z_range := PySem.W.mg_none_of X G z_range,
      z_sorted := PySem.W.mg_none_of X G z_sorted,
      z_str := PySem.W.mg_none_of X G z_str,
      z_sum := PySem.W.mg_none_of X G z_sum,
      z_tuple := PySem.W.mg_none_of X G z_tuple,
      z_zip := PySem.W.mg_none_of X G z_zip,
      c_lam := cL, P_lam := PL, t_lam := tab_mk a18 l18 tl1 tl2 tl3 tl4, t_tail := tabIn_none nl_1, tbs := tbL (cL, PL) (by rw [tabsOf_1 (tab_mk a18 l18 tl1 tl2 tl3 tl4) (tabIn_none nl_1)]; exact List.mem_singleton.mpr rfl) }⟩
theorem walk {l : PySem.W.OpenLaw} {q : Program} {loose : List Str} {XP : (Str → Option Value) → Heap → Prop} {YP : World → Heap → Prop} {d : DefRec} {K : Params → PySem.W.Frag} (hn : l.most = some 63) (hdf : d.params.defaults = [])
    (hY : ∀ (w : World) (h : Heap), YP w h → (K w.params).In h) (hlaw : ∀ ns : List Int, ns.length ≤ 63 → (∀ z ∈ ns, Builtin.Int.intBits z ≤ 1048576) → ∃ m z, fn_law [(.z (ns.map .i), .c)] = .rt (.b true, m) z)
    (F : ∀ (w : World) (mg : Str → Option Value) (fa : Addr) (h : Heap), (K w.params).In h → h.Ns mainGlobals mg → mg d.name = some (.ref fa) →
      ∃ fd : FuncData, (∀ (s : Shared) (u : Value), BindsTo s fd ⟨[u], []⟩ [("_law_script", u)]) ∧ (∀ y ∈ lamNames, LamFact q (K w.params) y) ∧ ∀ base : Heap, (K w.params).In base → base.Ns mainGlobals mg → (∀ p ∈ tabsOf (K w.params), LamX.TabB base mg p.1 p.2) → Y.FnOk l.prog w (K w.params) mg base (L2.CX l.prog w) 12 fa fd ["_law_script"] (spY (K w.params) (clK (K w.params)) false 1 fn_law)) :
    PySem.W.WalkO q loose XP YP l.row.toRowW d [] (fun f vs => PySem.call f vs) :=
  Y.walk_ofT (n := 63) (k := 12) (x := "_law_script") (CX := fun w => L2.CX l.prog w) (sp := fun w => spY (K w.params) (clK (K w.params)) false 1 fn_law) hn (by decide) hdf ⟨rfl, by decide, by decide⟩ hY F (fun w H a ns h1 h2 h3 tb h4 => law_inT (hlaw ns h1 h2) h3 tb h4) fun w H s e s2 z => cx_never z
local macro_rules
  | `(tactic| simp_arith [$xs,*]) => `(tactic| try simp only [↓wO_some, ↓wO_none, ↓wL_some, ↓wL_none, ↓wG_some, ↓wK_some, ↓wK_none, ↓setK_0, ↓setK_s, ↓wB_t, ↓wB_f, ↓wG_0, ↓wG_s, ↓isC_0, ↓isC_1, ↓isC_2, ↓isC_s, ↓allC_n, ↓allC_d, ↓allC_v, ↓frzK_n, ↓frzK_d, ↓frzK_c, ↓frzK_w, ↓wX_0, ↓wX_s, ↓wZ_c, ↓wZ_i, ↓wZ_b, ↓wZ_u, ↓wZ_n, ↓wZ_l, ↓wZ_t, ↓wM_c, ↓wM_i, ↓wM_b, ↓wM_u, ↓wM_n, ↓wM_a, ↓wM_lc, ↓wM_lt, ↓wM_tc, ↓wLk_n, ↓wLk_d, ↓wLk_v, ↓wA_nil, ↓wA_e, ↓wA_v, ↓wE_K, ↓wE_V, ↓wE_P, ↓wE_C, ↓wE_CK, ↓wE_CI, ↓wE_CM, ↓wE_If, ↓wE_And, ↓wE_Or, ↓wE_Not, ↓wE_Lc, ↓wP_none, ↓wP_some, ↓wT_Te, ↓wT_Not, ↓wT_And, ↓wT_Or, ↓wT_Yes, ↓wI_S, ↓wS_nx, ↓wS_bk, ↓wS_ct, ↓wS_no, ↓wS_asg, ↓wS_expr, ↓wS_ret, ↓wS_retV, ↓wS_retN, ↓wS_if, ↓wLen_0, ↓wLen_s, ↓wK_tgV, ↓wK_tgI, ↓wK_tgT, ↓wK_tgTl, ↓wK_tgTz, ↓wK_tgs0, ↓wK_tgs, ↓isL_0, ↓isL_s, ↓wS_app, ↓wH_nil, ↓wH_cons, ↓wS_par, ↓wK_put0, ↓wK_put, ↓wS_aug, ↓wFn_mk, ↓wFn_mkI, ↓wAt_0, ↓wSt_0, ↓wAt_1, ↓wSt_1, ↓wAt_2, ↓wSt_2, ↓wAt_3, ↓wSt_3, ↓wAt_4, ↓wSt_4, ↓wAt_5, ↓wSt_5, ↓wAt_6, ↓wSt_6, ↓wAt_7, ↓wSt_7, ↓isT_n_list, ↓isT_b_list, ↓isT_i_list, ↓isT_s_list, ↓isT_t_list, ↓isT_l_list, ↓isT_z_list, ↓isT_n_tuple, ↓isT_b_tuple, ↓isT_i_tuple, ↓isT_s_tuple, ↓isT_t_tuple, ↓isT_l_tuple, ↓isT_z_tuple, ↓isT_n_str, ↓isT_b_str, ↓isT_i_str, ↓isT_s_str, ↓isT_t_str, ↓isT_l_str, ↓isT_z_str, ↓isT_n_bool, ↓isT_b_bool, ↓isT_i_bool, ↓isT_s_bool, ↓isT_t_bool, ↓isT_l_bool, ↓isT_z_bool, ↓isT_n_int, ↓isT_b_int, ↓isT_i_int, ↓isT_s_int, ↓isT_t_int, ↓isT_l_int, ↓isT_z_int, ↓isn_n, ↓isn_b, ↓isn_i, ↓isn_s, ↓isn_t, ↓isn_l, ↓isn_z, ↓wO_add, ↓wO_addL, ↓wO_addT, ↓wO_sub, ↓wO_neg, ↓wO_mul, ↓wO_mulL, ↓wO_mod, ↓wO_div, ↓wO_pow, ↓wO_lt, ↓wO_le, ↓wO_gt, ↓wO_ge, ↓wO_eqI, ↓wO_neI, ↓wO_eqB, ↓wO_neB, ↓wO_eqS, ↓wO_neS, ↓wO_ixL, ↓wO_ixT, ↓wO_ixZ, ↓wO_lst, ↓wO_tup, ↓wO_lenL, ↓wO_lenT, ↓wO_lenZ, ↓wO_listL, ↓wO_listT, ↓wO_listZ, ↓wO_tupL, ↓wO_tupT, ↓wO_abs, ↓wO_max2, ↓wO_min2, ↓wO_intI, ↓wO_intB, ↓wO_sum, ↓wO_all, ↓wO_any, ↓isP_n, ↓isP_b, ↓isP_i, ↓isP_s, ↓isP_t, ↓isP_l, ↓isP_z, ↓wO_isi, ↓wO_isN, ↓wO_notN, ↓wO_revL, ↓wL_rng1, ↓wL_rng2, ↓wL_seqL, ↓wL_seqT, ↓wL_seqZ, ↓wL_enumL, ↓wL_zipL, ↓wL_zipT, ↓wO_apT, ↓wO_apA, ↓wO_stT, ↓wE_Sl, ↓wO_slL, ↓wO_slZ, ↓wO_slT, ↓wO_max1, ↓wO_min1, ↓wO_max1T, ↓wO_min1T, ↓wAt_last, ↓wE_LstO, ↓wEx_l, ↓wS_ext, ↓wPo_t, ↓wE_pop, ↓wP0_t, ↓wE_pop0, ↓wKs_n, ↓wKs_c, ↓wAj_0, ↓wAj_1, ↓wAj_2, ↓wUp_n, ↓wUp_c, ↓wC2_i, ↓wC1_1, ↓wE_Ch, ↓zfl_c, ↓zfl_lt, ↓zfl_a, ↓wO_mulT, ↓wL_enumT, ↓wO_eqN, ↓flat_pr1, ↓wM_hs, ↓wM_pr, ↓wE_Lc2, ↓wO_notB, ↓wO_isB, ↓okE_0, ↓okE_s, ↓ownE_0, ↓ownE_s, ↓flS_n, ↓flS_s, ↓allS_n, ↓allS_s, ↓wE_MtV, ↓wE_MtE, ↓isLd_l, ↓wZ_pr, ↓wZ_hs, ↓wE_Me, ↓wTl_c, ↓wFn_fnMk, ↓wR_nil, ↓wR_fld, ↓wR_st, ↓wS_forH, ↓wO_divmod, ↓wO_lrg, ↓nobL_i, ↓nobL_rm, ↓nobL_lm, ↓nob_t, ↓nob_l, ↓nob_z, ↓nob_i, ↓nob_b, ↓nob_s, ↓nob_n, ↓nobL_0, ↓nobL_c, ↓nobE_n, ↓nobE_c, ↓nobE_0, ↓con_0, ↓wS_raise1, ↓wS_raise0, ↓isn_x, ↓wO_iscN, ↓wO_lr1, ↓wO_lr2, ↓tru_n, ↓tru_t, ↓tru_l, ↓wTr_t, ↓wTr_f, ↓wE_OrT, ↓wO_lz, ↓wO_revT, ↓wO_lenSetD, ↓wO_srtSet, ↓wT_If, ↓wE_SlZ, ↓wE_Dc, ↓coldE_nil, ↓coldE_n, ↓coldE_s, ↓wO_minO, ↓wE_Vo, ↓wE_TupO, ↓wIA_t, ↓wE_IxA, ↓wIn0_n, ↓wIn0_c, ↓wL_rng3, ↓wIx2_l, ↓wE_Ix2, ↓wK_tgD, ↓wE_dnew, ↓wK_tgTO, ↓wK_tgsO0, ↓wK_tgsO, ↓isM_0, ↓isM_s, ↓ownV_l, ↓ownV_m, ↓ownV_i, ↓wE_DcE, ↓wE_Dc2, ↓wO_rev0T, ↓wE_Pk, ↓wO_srtSetL, ↓wOb_o, ↓wOb_c, ↓okO_e, ↓wE_lendO, ↓wE_MeI, ↓wFn_mkO, ↓wK_tgF, ↓wK_tgFD, ↓wS_delF, ↓wS_fin, ↓mixE_0, ↓mixE_cc, ↓mixE_ct, ↓mixE_ca, ↓mixE_cn, ↓okX_e, ↓okZ_0, ↓okZ_cc, ↓okZ_ct, ↓okZ_ca, ↓okZ_cn, ↓allB_0, ↓allB_c, ↓wS_fApp, ↓wS_fPop, ↓wL_enumK, ↓wL_enumKT, ↓wO_sumL, ↓wE_ddisp1, ↓wE_words, ↓wO_srtB, ↓wInK_n, ↓wInK_c, ↓wO_kIx, ↓wO_kIn, ↓wO_kNin, ↓wO_kGet, ↓wO_kGet2, ↓wO_lenK, ↓wE_Mk, ↓wE_knew, ↓wE_kd1, ↓wK_tgK, ↓isK_0, ↓isK_s, ↓isKs_0, ↓isKs_s, ↓ownV_k, ↓wS_setD, ↓wI_keys, ↓wI_items, ↓wI_itemsE, ↓wI_keysE, ↓wO_listKN, wO_some, wO_none, wL_some, wL_none, wG_some, wK_some, wK_none, setK_0, setK_s, wB_t, wB_f, wG_0, wG_s, isC_0, isC_1, isC_2, isC_s, allC_n, allC_d, allC_v, frzK_n, frzK_d, frzK_c, frzK_w, wX_0, wX_s, wZ_c, wZ_i, wZ_b, wZ_u, wZ_n, wZ_l, wZ_t, wM_c, wM_i, wM_b, wM_u, wM_n, wM_a, wM_lc, wM_lt, wM_tc, wLk_n, wLk_d, wLk_v, wA_nil, wA_e, wA_v, wE_K, wE_V, wE_P, wE_C, wE_CK, wE_CI, wE_CM, wE_If, wE_And, wE_Or, wE_Not, wE_Lc, wP_none, wP_some, wT_Te, wT_Not, wT_And, wT_Or, wT_Yes, wI_S, wS_nx, wS_bk, wS_ct, wS_no, wS_asg, wS_expr, wS_ret, wS_retV, wS_retN, wS_if, wLen_0, wLen_s, wK_tgV, wK_tgI, wK_tgT, wK_tgTl, wK_tgTz, wK_tgs0, wK_tgs, isL_0, isL_s, wS_app, wH_nil, wH_cons, wS_par, wK_put0, wK_put, wS_aug, wFn_mk, wFn_mkI, wAt_0, wSt_0, wAt_1, wSt_1, wAt_2, wSt_2, wAt_3, wSt_3, wAt_4, wSt_4, wAt_5, wSt_5, wAt_6, wSt_6, wAt_7, wSt_7, isT_n_list, isT_b_list, isT_i_list, isT_s_list, isT_t_list, isT_l_list, isT_z_list, isT_n_tuple, isT_b_tuple, isT_i_tuple, isT_s_tuple, isT_t_tuple, isT_l_tuple, isT_z_tuple, isT_n_str, isT_b_str, isT_i_str, isT_s_str, isT_t_str, isT_l_str, isT_z_str, isT_n_bool, isT_b_bool, isT_i_bool, isT_s_bool, isT_t_bool, isT_l_bool, isT_z_bool, isT_n_int, isT_b_int, isT_i_int, isT_s_int, isT_t_int, isT_l_int, isT_z_int, isn_n, isn_b, isn_i, isn_s, isn_t, isn_l, isn_z, wO_add, wO_addL, wO_addT, wO_sub, wO_neg, wO_mul, wO_mulL, wO_mod, wO_div, wO_pow, wO_lt, wO_le, wO_gt, wO_ge, wO_eqI, wO_neI, wO_eqB, wO_neB, wO_eqS, wO_neS, wO_ixL, wO_ixT, wO_ixZ, wO_lst, wO_tup, wO_lenL, wO_lenT, wO_lenZ, wO_listL, wO_listT, wO_listZ, wO_tupL, wO_tupT, wO_abs, wO_max2, wO_min2, wO_intI, wO_intB, wO_sum, wO_all, wO_any, isP_n, isP_b, isP_i, isP_s, isP_t, isP_l, isP_z, wO_isi, wO_isN, wO_notN, wO_revL, wL_rng1, wL_rng2, wL_seqL, wL_seqT, wL_seqZ, wL_enumL, wL_zipL, wL_zipT, wO_apT, wO_apA, wO_stT, wE_Sl, wO_slL, wO_slZ, wO_slT, wO_max1, wO_min1, wO_max1T, wO_min1T, wAt_last, wE_LstO, wEx_l, wS_ext, wPo_t, wE_pop, wP0_t, wE_pop0, wKs_n, wKs_c, wAj_0, wAj_1, wAj_2, wUp_n, wUp_c, wC2_i, wC1_1, wE_Ch, zfl_c, zfl_lt, zfl_a, wO_mulT, wL_enumT, wO_eqN, flat_pr1, wM_hs, wM_pr, wE_Lc2, wO_notB, wO_isB, okE_0, okE_s, ownE_0, ownE_s, flS_n, flS_s, allS_n, allS_s, wE_MtV, wE_MtE, isLd_l, wZ_pr, wZ_hs, wE_Me, wTl_c, wFn_fnMk, wR_nil, wR_fld, wR_st, wS_forH, wO_divmod, wO_lrg, nobL_i, nobL_rm, nobL_lm, nob_t, nob_l, nob_z, nob_i, nob_b, nob_s, nob_n, nobL_0, nobL_c, nobE_n, nobE_c, nobE_0, con_0, wS_raise1, wS_raise0, isn_x, wO_iscN, wO_lr1, wO_lr2, tru_n, tru_t, tru_l, wTr_t, wTr_f, wE_OrT, wO_lz, wO_revT, wO_lenSetD, wO_srtSet, wT_If, wE_SlZ, wE_Dc, coldE_nil, coldE_n, coldE_s, wO_minO, wE_Vo, wE_TupO, wIA_t, wE_IxA, wIn0_n, wIn0_c, wL_rng3, wIx2_l, wE_Ix2, wK_tgD, wE_dnew, wK_tgTO, wK_tgsO0, wK_tgsO, isM_0, isM_s, ownV_l, ownV_m, ownV_i, wE_DcE, wE_Dc2, wO_rev0T, wE_Pk, wO_srtSetL, wOb_o, wOb_c, okO_e, wE_lendO, wE_MeI, wFn_mkO, wK_tgF, wK_tgFD, wS_delF, wS_fin, mixE_0, mixE_cc, mixE_ct, mixE_ca, mixE_cn, okX_e, okZ_0, okZ_cc, okZ_ct, okZ_ca, okZ_cn, allB_0, allB_c, wS_fApp, wS_fPop, wL_enumK, wL_enumKT, wO_sumL, wE_ddisp1, wE_words, wO_srtB, wInK_n, wInK_c, wO_kIx, wO_kIn, wO_kNin, wO_kGet, wO_kGet2, wO_lenK, wE_Mk, wE_knew, wE_kd1, wK_tgK, isK_0, isK_s, isKs_0, isKs_s, ownV_k, wS_setD, wI_keys, wI_items, wI_itemsE, wI_keysE, wO_listKN, LIM, Int.natCast_one, Int.natCast_zero, castN, castM, cMulL, cMulR, cMul_01, Int.reduceLE, Int.reduceLT, logB, natB, Int.reduceToNat, Int.reducePow, Nat.reducePow, Int.reduceNeg, Int.reduceMul, Int.reduceSub, Int.reduceAdd, Nat.reduceMul, Int.reduceEq, Int.reduceMod, Int.reduceDiv, Nat.zero_le, Nat.le_refl, cold, flat_i, flat_b, flat_rm, flat_pr, flat_hs,  not_true_eq_false, not_false_eq_true, false_implies, implies_true, Bool.true_eq_false, false_and, and_false, wipeE, rsE, List.set_cons_zero, List.set_cons_succ, List.any_cons, List.any_nil, Bool.or_false, Bool.or_true, Bool.true_or, pick, List.getD_cons_zero, List.getD_cons_succ, decide_true, decide_false, eq_self, List.length_append, List.replicate, List.length_cons, List.length_nil, List.length_map, List.map_cons, List.map_nil, List.cons_append, List.nil_append, List.getElem?_cons_zero, List.getElem?_cons_succ, List.getElem?_nil, List.tail_cons, Bool.and_true, Bool.true_and, Bool.and_self, Bool.false_and, Bool.and_false, Bool.true_or, Bool.or_true, Bool.false_or, if_true, if_false, ite_true, ite_false, reduceIte, Bool.false_eq_true, Nat.reduceAdd, Nat.reduceSub, Nat.reduceLT, Nat.reduceLeDiff, true_and, and_true, true_implies, decide_eq_true_eq, decide_eq_false_iff_not, Bool.not_eq_true', Bool.not_eq_false', Nat.zero_add, Nat.sub_self, Nat.sub_zero, Nat.lt_add_one, Nat.zero_lt_succ, reduceCtorEq, Dt.flat, flatL, Bool.not_true, Bool.not_false, $xs,*])
  | `(tactic| simp_arith [$xs,*] at $h:ident) => `(tactic| try simp only [↓wO_some, ↓wO_none, ↓wL_some, ↓wL_none, ↓wG_some, ↓wK_some, ↓wK_none, ↓setK_0, ↓setK_s, ↓wB_t, ↓wB_f, ↓wG_0, ↓wG_s, ↓isC_0, ↓isC_1, ↓isC_2, ↓isC_s, ↓allC_n, ↓allC_d, ↓allC_v, ↓frzK_n, ↓frzK_d, ↓frzK_c, ↓frzK_w, ↓wX_0, ↓wX_s, ↓wZ_c, ↓wZ_i, ↓wZ_b, ↓wZ_u, ↓wZ_n, ↓wZ_l, ↓wZ_t, ↓wM_c, ↓wM_i, ↓wM_b, ↓wM_u, ↓wM_n, ↓wM_a, ↓wM_lc, ↓wM_lt, ↓wM_tc, ↓wLk_n, ↓wLk_d, ↓wLk_v, ↓wA_nil, ↓wA_e, ↓wA_v, ↓wE_K, ↓wE_V, ↓wE_P, ↓wE_C, ↓wE_CK, ↓wE_CI, ↓wE_CM, ↓wE_If, ↓wE_And, ↓wE_Or, ↓wE_Not, ↓wE_Lc, ↓wP_none, ↓wP_some, ↓wT_Te, ↓wT_Not, ↓wT_And, ↓wT_Or, ↓wT_Yes, ↓wI_S, ↓wS_nx, ↓wS_bk, ↓wS_ct, ↓wS_no, ↓wS_asg, ↓wS_expr, ↓wS_ret, ↓wS_retV, ↓wS_retN, ↓wS_if, ↓wLen_0, ↓wLen_s, ↓wK_tgV, ↓wK_tgI, ↓wK_tgT, ↓wK_tgTl, ↓wK_tgTz, ↓wK_tgs0, ↓wK_tgs, ↓isL_0, ↓isL_s, ↓wS_app, ↓wH_nil, ↓wH_cons, ↓wS_par, ↓wK_put0, ↓wK_put, ↓wS_aug, ↓wFn_mk, ↓wFn_mkI, ↓wAt_0, ↓wSt_0, ↓wAt_1, ↓wSt_1, ↓wAt_2, ↓wSt_2, ↓wAt_3, ↓wSt_3, ↓wAt_4, ↓wSt_4, ↓wAt_5, ↓wSt_5, ↓wAt_6, ↓wSt_6, ↓wAt_7, ↓wSt_7, ↓isT_n_list, ↓isT_b_list, ↓isT_i_list, ↓isT_s_list, ↓isT_t_list, ↓isT_l_list, ↓isT_z_list, ↓isT_n_tuple, ↓isT_b_tuple, ↓isT_i_tuple, ↓isT_s_tuple, ↓isT_t_tuple, ↓isT_l_tuple, ↓isT_z_tuple, ↓isT_n_str, ↓isT_b_str, ↓isT_i_str, ↓isT_s_str, ↓isT_t_str, ↓isT_l_str, ↓isT_z_str, ↓isT_n_bool, ↓isT_b_bool, ↓isT_i_bool, ↓isT_s_bool, ↓isT_t_bool, ↓isT_l_bool, ↓isT_z_bool, ↓isT_n_int, ↓isT_b_int, ↓isT_i_int, ↓isT_s_int, ↓isT_t_int, ↓isT_l_int, ↓isT_z_int, ↓isn_n, ↓isn_b, ↓isn_i, ↓isn_s, ↓isn_t, ↓isn_l, ↓isn_z, ↓wO_add, ↓wO_addL, ↓wO_addT, ↓wO_sub, ↓wO_neg, ↓wO_mul, ↓wO_mulL, ↓wO_mod, ↓wO_div, ↓wO_pow, ↓wO_lt, ↓wO_le, ↓wO_gt, ↓wO_ge, ↓wO_eqI, ↓wO_neI, ↓wO_eqB, ↓wO_neB, ↓wO_eqS, ↓wO_neS, ↓wO_ixL, ↓wO_ixT, ↓wO_ixZ, ↓wO_lst, ↓wO_tup, ↓wO_lenL, ↓wO_lenT, ↓wO_lenZ, ↓wO_listL, ↓wO_listT, ↓wO_listZ, ↓wO_tupL, ↓wO_tupT, ↓wO_abs, ↓wO_max2, ↓wO_min2, ↓wO_intI, ↓wO_intB, ↓wO_sum, ↓wO_all, ↓wO_any, ↓isP_n, ↓isP_b, ↓isP_i, ↓isP_s, ↓isP_t, ↓isP_l, ↓isP_z, ↓wO_isi, ↓wO_isN, ↓wO_notN, ↓wO_revL, ↓wL_rng1, ↓wL_rng2, ↓wL_seqL, ↓wL_seqT, ↓wL_seqZ, ↓wL_enumL, ↓wL_zipL, ↓wL_zipT, ↓wO_apT, ↓wO_apA, ↓wO_stT, ↓wE_Sl, ↓wO_slL, ↓wO_slZ, ↓wO_slT, ↓wO_max1, ↓wO_min1, ↓wO_max1T, ↓wO_min1T, ↓wAt_last, ↓wE_LstO, ↓wEx_l, ↓wS_ext, ↓wPo_t, ↓wE_pop, ↓wP0_t, ↓wE_pop0, ↓wKs_n, ↓wKs_c, ↓wAj_0, ↓wAj_1, ↓wAj_2, ↓wUp_n, ↓wUp_c, ↓wC2_i, ↓wC1_1, ↓wE_Ch, ↓zfl_c, ↓zfl_lt, ↓zfl_a, ↓wO_mulT, ↓wL_enumT, ↓wO_eqN, ↓flat_pr1, ↓wM_hs, ↓wM_pr, ↓wE_Lc2, ↓wO_notB, ↓wO_isB, ↓okE_0, ↓okE_s, ↓ownE_0, ↓ownE_s, ↓flS_n, ↓flS_s, ↓allS_n, ↓allS_s, ↓wE_MtV, ↓wE_MtE, ↓isLd_l, ↓wZ_pr, ↓wZ_hs, ↓wE_Me, ↓wTl_c, ↓wFn_fnMk, ↓wR_nil, ↓wR_fld, ↓wR_st, ↓wS_forH, ↓wO_divmod, ↓wO_lrg, ↓nobL_i, ↓nobL_rm, ↓nobL_lm, ↓nob_t, ↓nob_l, ↓nob_z, ↓nob_i, ↓nob_b, ↓nob_s, ↓nob_n, ↓nobL_0, ↓nobL_c, ↓nobE_n, ↓nobE_c, ↓nobE_0, ↓con_0, ↓wS_raise1, ↓wS_raise0, ↓isn_x, ↓wO_iscN, ↓wO_lr1, ↓wO_lr2, ↓tru_n, ↓tru_t, ↓tru_l, ↓wTr_t, ↓wTr_f, ↓wE_OrT, ↓wO_lz, ↓wO_revT, ↓wO_lenSetD, ↓wO_srtSet, ↓wT_If, ↓wE_SlZ, ↓wE_Dc, ↓coldE_nil, ↓coldE_n, ↓coldE_s, ↓wO_minO, ↓wE_Vo, ↓wE_TupO, ↓wIA_t, ↓wE_IxA, ↓wIn0_n, ↓wIn0_c, ↓wL_rng3, ↓wIx2_l, ↓wE_Ix2, ↓wK_tgD, ↓wE_dnew, ↓wK_tgTO, ↓wK_tgsO0, ↓wK_tgsO, ↓isM_0, ↓isM_s, ↓ownV_l, ↓ownV_m, ↓ownV_i, ↓wE_DcE, ↓wE_Dc2, ↓wO_rev0T, ↓wE_Pk, ↓wO_srtSetL, ↓wOb_o, ↓wOb_c, ↓okO_e, ↓wE_lendO, ↓wE_MeI, ↓wFn_mkO, ↓wK_tgF, ↓wK_tgFD, ↓wS_delF, ↓wS_fin, ↓mixE_0, ↓mixE_cc, ↓mixE_ct, ↓mixE_ca, ↓mixE_cn, ↓okX_e, ↓okZ_0, ↓okZ_cc, ↓okZ_ct, ↓okZ_ca, ↓okZ_cn, ↓allB_0, ↓allB_c, ↓wS_fApp, ↓wS_fPop, ↓wL_enumK, ↓wL_enumKT, ↓wO_sumL, ↓wE_ddisp1, ↓wE_words, ↓wO_srtB, ↓wInK_n, ↓wInK_c, ↓wO_kIx, ↓wO_kIn, ↓wO_kNin, ↓wO_kGet, ↓wO_kGet2, ↓wO_lenK, ↓wE_Mk, ↓wE_knew, ↓wE_kd1, ↓wK_tgK, ↓isK_0, ↓isK_s, ↓isKs_0, ↓isKs_s, ↓ownV_k, ↓wS_setD, ↓wI_keys, ↓wI_items, ↓wI_itemsE, ↓wI_keysE, ↓wO_listKN, wO_some, wO_none, wL_some, wL_none, wG_some, wK_some, wK_none, setK_0, setK_s, wB_t, wB_f, wG_0, wG_s, isC_0, isC_1, isC_2, isC_s, allC_n, allC_d, allC_v, frzK_n, frzK_d, frzK_c, frzK_w, wX_0, wX_s, wZ_c, wZ_i, wZ_b, wZ_u, wZ_n, wZ_l, wZ_t, wM_c, wM_i, wM_b, wM_u, wM_n, wM_a, wM_lc, wM_lt, wM_tc, wLk_n, wLk_d, wLk_v, wA_nil, wA_e, wA_v, wE_K, wE_V, wE_P, wE_C, wE_CK, wE_CI, wE_CM, wE_If, wE_And, wE_Or, wE_Not, wE_Lc, wP_none, wP_some, wT_Te, wT_Not, wT_And, wT_Or, wT_Yes, wI_S, wS_nx, wS_bk, wS_ct, wS_no, wS_asg, wS_expr, wS_ret, wS_retV, wS_retN, wS_if, wLen_0, wLen_s, wK_tgV, wK_tgI, wK_tgT, wK_tgTl, wK_tgTz, wK_tgs0, wK_tgs, isL_0, isL_s, wS_app, wH_nil, wH_cons, wS_par, wK_put0, wK_put, wS_aug, wFn_mk, wFn_mkI, wAt_0, wSt_0, wAt_1, wSt_1, wAt_2, wSt_2, wAt_3, wSt_3, wAt_4, wSt_4, wAt_5, wSt_5, wAt_6, wSt_6, wAt_7, wSt_7, isT_n_list, isT_b_list, isT_i_list, isT_s_list, isT_t_list, isT_l_list, isT_z_list, isT_n_tuple, isT_b_tuple, isT_i_tuple, isT_s_tuple, isT_t_tuple, isT_l_tuple, isT_z_tuple, isT_n_str, isT_b_str, isT_i_str, isT_s_str, isT_t_str, isT_l_str, isT_z_str, isT_n_bool, isT_b_bool, isT_i_bool, isT_s_bool, isT_t_bool, isT_l_bool, isT_z_bool, isT_n_int, isT_b_int, isT_i_int, isT_s_int, isT_t_int, isT_l_int, isT_z_int, isn_n, isn_b, isn_i, isn_s, isn_t, isn_l, isn_z, wO_add, wO_addL, wO_addT, wO_sub, wO_neg, wO_mul, wO_mulL, wO_mod, wO_div, wO_pow, wO_lt, wO_le, wO_gt, wO_ge, wO_eqI, wO_neI, wO_eqB, wO_neB, wO_eqS, wO_neS, wO_ixL, wO_ixT, wO_ixZ, wO_lst, wO_tup, wO_lenL, wO_lenT, wO_lenZ, wO_listL, wO_listT, wO_listZ, wO_tupL, wO_tupT, wO_abs, wO_max2, wO_min2, wO_intI, wO_intB, wO_sum, wO_all, wO_any, isP_n, isP_b, isP_i, isP_s, isP_t, isP_l, isP_z, wO_isi, wO_isN, wO_notN, wO_revL, wL_rng1, wL_rng2, wL_seqL, wL_seqT, wL_seqZ, wL_enumL, wL_zipL, wL_zipT, wO_apT, wO_apA, wO_stT, wE_Sl, wO_slL, wO_slZ, wO_slT, wO_max1, wO_min1, wO_max1T, wO_min1T, wAt_last, wE_LstO, wEx_l, wS_ext, wPo_t, wE_pop, wP0_t, wE_pop0, wKs_n, wKs_c, wAj_0, wAj_1, wAj_2, wUp_n, wUp_c, wC2_i, wC1_1, wE_Ch, zfl_c, zfl_lt, zfl_a, wO_mulT, wL_enumT, wO_eqN, flat_pr1, wM_hs, wM_pr, wE_Lc2, wO_notB, wO_isB, okE_0, okE_s, ownE_0, ownE_s, flS_n, flS_s, allS_n, allS_s, wE_MtV, wE_MtE, isLd_l, wZ_pr, wZ_hs, wE_Me, wTl_c, wFn_fnMk, wR_nil, wR_fld, wR_st, wS_forH, wO_divmod, wO_lrg, nobL_i, nobL_rm, nobL_lm, nob_t, nob_l, nob_z, nob_i, nob_b, nob_s, nob_n, nobL_0, nobL_c, nobE_n, nobE_c, nobE_0, con_0, wS_raise1, wS_raise0, isn_x, wO_iscN, wO_lr1, wO_lr2, tru_n, tru_t, tru_l, wTr_t, wTr_f, wE_OrT, wO_lz, wO_revT, wO_lenSetD, wO_srtSet, wT_If, wE_SlZ, wE_Dc, coldE_nil, coldE_n, coldE_s, wO_minO, wE_Vo, wE_TupO, wIA_t, wE_IxA, wIn0_n, wIn0_c, wL_rng3, wIx2_l, wE_Ix2, wK_tgD, wE_dnew, wK_tgTO, wK_tgsO0, wK_tgsO, isM_0, isM_s, ownV_l, ownV_m, ownV_i, wE_DcE, wE_Dc2, wO_rev0T, wE_Pk, wO_srtSetL, wOb_o, wOb_c, okO_e, wE_lendO, wE_MeI, wFn_mkO, wK_tgF, wK_tgFD, wS_delF, wS_fin, mixE_0, mixE_cc, mixE_ct, mixE_ca, mixE_cn, okX_e, okZ_0, okZ_cc, okZ_ct, okZ_ca, okZ_cn, allB_0, allB_c, wS_fApp, wS_fPop, wL_enumK, wL_enumKT, wO_sumL, wE_ddisp1, wE_words, wO_srtB, wInK_n, wInK_c, wO_kIx, wO_kIn, wO_kNin, wO_kGet, wO_kGet2, wO_lenK, wE_Mk, wE_knew, wE_kd1, wK_tgK, isK_0, isK_s, isKs_0, isKs_s, ownV_k, wS_setD, wI_keys, wI_items, wI_itemsE, wI_keysE, wO_listKN, LIM, Int.natCast_one, Int.natCast_zero, castN, castM, cMulL, cMulR, cMul_01, Int.reduceLE, Int.reduceLT, logB, natB, Int.reduceToNat, Int.reducePow, Nat.reducePow, Int.reduceNeg, Int.reduceMul, Int.reduceSub, Int.reduceAdd, Nat.reduceMul, Int.reduceEq, Int.reduceMod, Int.reduceDiv, Nat.zero_le, Nat.le_refl, cold, flat_i, flat_b, flat_rm, flat_pr, flat_hs,  not_true_eq_false, not_false_eq_true, false_implies, implies_true, Bool.true_eq_false, false_and, and_false, wipeE, rsE, List.set_cons_zero, List.set_cons_succ, List.any_cons, List.any_nil, Bool.or_false, Bool.or_true, Bool.true_or, pick, List.getD_cons_zero, List.getD_cons_succ, decide_true, decide_false, eq_self, List.length_append, List.replicate, List.length_cons, List.length_nil, List.length_map, List.map_cons, List.map_nil, List.cons_append, List.nil_append, List.getElem?_cons_zero, List.getElem?_cons_succ, List.getElem?_nil, List.tail_cons, Bool.and_true, Bool.true_and, Bool.and_self, Bool.false_and, Bool.and_false, Bool.true_or, Bool.or_true, Bool.false_or, if_true, if_false, ite_true, ite_false, reduceIte, Bool.false_eq_true, Nat.reduceAdd, Nat.reduceSub, Nat.reduceLT, Nat.reduceLeDiff, true_and, and_true, true_implies, decide_eq_true_eq, decide_eq_false_iff_not, Bool.not_eq_true', Bool.not_eq_false', Nat.zero_add, Nat.sub_self, Nat.sub_zero, Nat.lt_add_one, Nat.zero_lt_succ, reduceCtorEq, Dt.flat, flatL, Bool.not_true, Bool.not_false, $xs,*] at $h:ident)
local macro_rules
  | `(tactic| simp_arith! [$xs,*]) => `(tactic| ((try rw [wS_seq]); simp_arith [$xs,*]))
/-- a tape: three numbers; n draws are left -/
def Tp (n : Nat) (t : Dt) : Prop := ∃ a b c : Int, t = .l [.i a, .i b, .i c] ∧ 0 ≤ b ∧ b < 2 ^ 62 ∧ 0 ≤ c ∧ c + n ≤ 2 ^ 30
theorem Tp.zfl {n : Nat} {t : Dt} (h : Tp n t) : Y.zfl (t, .t) = true := by
  obtain ⟨a, b, c, rfl, _⟩ := h
  rfl
theorem Tp.less {n m : Nat} {t : Dt} (h : Tp n t) (q : m ≤ n) : Tp m t := by
  obtain ⟨a, b, c, rfl, h1, h2, h3, h4⟩ := h
  exact ⟨a, b, c, rfl, h1, h2, h3, by omega⟩
theorem any_lt {here : List Int} {m : Int} : here.any (fun w => decide (w < m)) = (here.map fun w => decide (w < m)).any id := by simp [List.any_map]
theorem lt_map {here : List Int} {m : Int} (G : Dt → Dt) (h : ∀ w, G (.i w) = .b (decide (w < m))) : (here.map Dt.i).map G = (here.map fun w => decide (w < m)).map Dt.b := by simp [List.map_map, h]
def ltG (m : Int) : Dt → Dt
  | .i w => .b (decide (w < m))
  | _ => .n
theorem folded_ok {ns : List Int} {u : Nat} (h : ns.length ≤ 63) (hu0 : 0 < u) (hu : u ≤ 63) {Q : Vl → Vl → Prop} (q : ∀ cs : List Int, cs.length = min u ns.length → Q (.l (cs.map .i), .t) (.n, .c)) : wFn fn__law_folded [(.z (ns.map .i), .c), (.i u, .c)] Q := by
  simp_arith [↓wS_seq, wS_seq, fn__law_folded, m__law_folded]
  rw [cutD_hi (by omega)]
  refine wS_for' ?_
  simp_arith [↓wS_seq, wS_seq]
  rw [cutD_lh (by omega) (by omega)]
  refine ⟨fun k r => ∃ (cs : List Int) (o o' : Option Vl), cs.length = min u ns.length ∧ r = [some (.z (ns.map .i), .c), some (.i u, .c), some (.l (cs.map .i), .t), o, o'], ⟨ns.take u, none, none, by simp, by simp [List.map_take]⟩, ?_, ?_⟩
  · rintro k z _ hz ⟨cs, o, o', hl, rfl⟩
    obtain ⟨d, hd, rfl⟩ := enumD_mem hz
    have hk := (List.getElem?_eq_some_iff.mp hd).1
    simp only [List.length_take, List.length_drop, List.length_map] at hk
    have hlen : cs.length = u := by omega
    rw [← List.map_drop, ← List.map_take, List.getElem?_map, Option.map_eq_some_iff] at hd
    obtain ⟨c, _, rfl⟩ := hd
    have m0 : 0 ≤ (k : Int) % (u : Int) := Int.emod_nonneg _ (by omega)
    have m1 : (k : Int) % (u : Int) < u := Int.emod_lt_of_pos _ (by omega)
    simp_arith [↓wS_seq, wS_seq]
    refine ⟨by omega, wAt_i m0 (by omega) fun c1 _ => ?_⟩
    simp_arith [↓wS_seq, wS_seq]
    refine ⟨cMul_r (by omega) (by omega), by omega, wSt_i m0 (by omega) ?_⟩
    exact ⟨_, _, _, by simpa using hl, rfl⟩
  · rintro _ ⟨cs, o, o', hl, rfl⟩
    simp_arith [↓wS_seq, wS_seq]
    exact q cs hl
theorem base_step (k : Nat) : baseN (k + 1) 0 = baseN k 0 + k * 2 ^ k + 1 := by
  rw [← base_top]
  unfold baseN
  rw [ones_pow, show onesN 0 = 0 by simp [onesN], Int.natCast_pow]
  simp
theorem all_many_ok {n : Nat} (h : n ≤ 60) {Q : Vl → Vl → Prop} (q : Q (.i (baseN n 0), .c) (.n, .c)) : wFn fn__law_all_many [(.i n, .c)] Q := by
  have lim : LIM = 1000000 := rfl
  simp_arith [fn__law_all_many, m__law_all_many]
  simp_arith! [true_and]
  rw [wS_seq]
  refine wS_for' ?_
  simp_arith [true_and]
  refine ⟨by omega, fun k r => ∃ o : Option Vl, r = [some (.i n, .c), some (.i (baseN k 0), .c), some (.i ((2 : Int) ^ k), .c), o], ⟨none, by simp [baseN, onesN]⟩, ?_, ?_⟩
  · rintro k x _ hx ⟨o, rfl⟩
    obtain ⟨rfl, hk⟩ := rngD_at hx
    have hk : k < n := by omega
    simp_arith [true_and]
    rw [Int.zero_add]
    have p2 : (2 : Int) ^ (k + 1) = 2 ^ k * 2 := Int.pow_succ 2 k
    rw [base_step, p2]
    refine ⟨?_, ?_⟩
    · simp only [cMul, Bool.or_eq_true, Bool.and_eq_true, decide_eq_true_eq]
      left
      omega
    exact ⟨_, rfl⟩
  · rintro _ ⟨o, rfl⟩
    rw [rngD_len, Int.toNat_natCast]
    simp_arith [true_and]
    exact q
theorem draw_ok {n : Nat} {t : Dt} {u : Int} {m : Md} (h : Tp (n + 1) t) (h0 : 0 < u) (h1 : u < 2 ^ 60) {Q : Vl → Vl → Prop} (q : ∀ k t', 0 ≤ k → k < u → Tp n t' → Q (.i k, .c) (t', .t)) : wFn fn__law_draw [(t, .t), (.i u, m)] Q := by
  obtain ⟨a, b, c, rfl, hb0, hb1, hc0, hc1⟩ := h
  simp_arith [↓wS_seq, wS_seq, fn__law_draw, m__law_draw]
  refine ⟨fun h => ⟨h0, ⟨h0, log_ok h0 (by omega)⟩, q _ _ (Int.emod_nonneg _ (by omega)) (Int.emod_lt_of_pos _ h0) ⟨_, _, _, rfl, hb0, hb1, hc0, by omega⟩⟩, fun h => ?_⟩
  have e1 : 0 ≤ (b + 39373 * (c + 1)) ^ 5 % 2147483647 := Int.emod_nonneg _ (by decide)
  have e2 : (b + 39373 * (c + 1)) ^ 5 % 2147483647 < 2147483647 := Int.emod_lt_of_pos _ (by decide)
  generalize (b + 39373 * (c + 1)) ^ 5 % 2147483647 = o at e1 e2 ⊢
  have f1 : 0 ≤ (o + (c + 1)) * (o % 40009 + 7 + (c + 1)) % 2147483629 := Int.emod_nonneg _ (by decide)
  have f2 : (o + (c + 1)) * (o % 40009 + 7 + (c + 1)) % 2147483629 < 2147483629 := Int.emod_lt_of_pos _ (by decide)
  generalize (o + (c + 1)) * (o % 40009 + 7 + (c + 1)) % 2147483629 = w at f1 f2 ⊢
  exact ⟨by omega, cMul_l (by omega) (by omega), h0,
    q _ _ (Int.emod_nonneg _ (by omega)) (Int.emod_lt_of_pos _ h0) ⟨_, _, _, rfl, hb0, hb1, by omega, by omega⟩⟩
theorem cottage2_ok {n : Nat} {t : Dt} {row : List Int} (h : Tp (n + 200) t) (hr : row.length ≤ 41) (hw : ∀ w ∈ row, 1 ≤ w ∧ w < 2 ^ 62) {Q : Vl → Vl → Prop}
    (q : ∀ (here there : List Int) (m : Int) t', there.Sublist row → here = row.filter (fun w => !decide (w ∈ there)) → 0 ≤ m → m < 2 ^ 63 → Tp n t' → Q (cot here there m, .c) (t', .t)) : wFn fn__law_cottage [(t, .t), (.l (row.map .i), .c)] Q := by
  simp_arith [fn__law_cottage, m__law_cottage]
  simp_arith! [true_and]
  refine draw_ok (n := n + 199) h (by omega) (by omega) fun k1 t1 a1 b1 h1 => ?_
  simp_arith [h1.zfl]
  refine wAt_I (ns := [2, 2, 5, 1, 3]) (P := fun s => 1 ≤ s ∧ s ≤ 5) a1 b1 (by simp) fun odds ho => ?_
  simp_arith [true_and]
  refine draw_ok (n := n + 198) h1 (by omega) (by omega) fun k2 t2 a2 b2 h2 => ?_
  simp_arith [h2.zfl]
  refine draw_ok (n := n + 197) h2 (by omega) (by omega) fun k3 t3 a3 b3 h3 => ?_
  simp_arith [h3.zfl]
  refine ⟨cMul_l (by omega) (by omega), ?_⟩
  have l0 : 0 ≤ k2 * (k3 / 2) := Int.mul_nonneg a2 (by omega)
  have l1 : k2 * (k3 / 2) ≤ 41 := by
    have : k3 / 2 ≤ 1 := by omega
    have := Int.mul_le_mul_of_nonneg_left this a2
    omega
  generalize k2 * (k3 / 2) = least at l0 l1 ⊢
  simp_arith! [true_and]
  rw [cutD_hi l0, cutD_lo l0, ← List.map_take, ← List.map_drop]
  refine ⟨by simp; omega, lc_inv (fun k r acc => ∃ (t : Dt) (zs : List Int), r = [some (t, .t), some (.l (row.map .i), .c), some (.i odds, .c), some (.i least, .c), none, none, none, none, none, none] ∧ acc = zs.map .i ∧ zs.length ≤ k ∧ zs.Sublist ((row.drop least.toNat).take k) ∧ k ≤ row.length ∧ Tp (n + 150 + (row.length - k)) t) ⟨t3, [], rfl, rfl, by simp, List.nil_sublist _, by simp, h3.less (by omega)⟩ ?_ ?_⟩
  · rintro i x _ acc hx ⟨t, zs, rfl, rfl, hl, hz, hi, ht⟩
    rw [List.getElem?_map, Option.map_eq_some_iff] at hx
    obtain ⟨c, hc, rfl⟩ := hx
    have hi2 := (List.getElem?_eq_some_iff.mp hc).1
    rw [List.length_drop] at hi2
    have hst : (row.drop least.toNat).take (i + 1) = (row.drop least.toNat).take i ++ [c] := by rw [List.take_succ, hc]; rfl
    simp_arith [true_and]
    refine draw_ok (n := n + 150 + (row.length - (i + 1))) (ht.less (by omega)) (by omega) (by omega) fun k4 t4 a4 b4 h4 => ?_
    simp_arith [h4.zfl]
    exact ⟨fun _ => ⟨t4, zs, rfl, rfl, by omega, by rw [hst]; exact hz.trans (List.sublist_append_left _ _), by omega, h4⟩, fun _ => ⟨t4, zs ++ [c], rfl, by simp, by simp; omega, by rw [hst]; exact hz.append (List.Sublist.refl _), by omega, h4⟩⟩
  · rintro ys _ ⟨t4, zs, rfl, rfl, hl, hz, _, ht⟩
    rw [List.length_map, List.length_drop] at hl
    simp_arith [true_and]
    refine ⟨by simp; omega, ?_⟩
    rw [← List.map_append]
    have hS : (row.take least.toNat ++ zs).Sublist row := by
      have := (List.Sublist.refl (row.take least.toNat)).append (hz.trans (List.take_sublist _ _))
      rwa [List.take_append_drop] at this
    generalize row.take least.toNat ++ zs = there at hS ⊢
    have hT : ∀ w ∈ there, w ∈ row := fun w h => hS.subset h
    have hTl : there.length ≤ 41 := Nat.le_trans hS.length_le hr
    simp_arith! [true_and]
    refine ⟨by omega, _, _, lc_fI (fun w => !decide (w ∈ there)) .i fun w hw2 => ?_, ?_⟩
    · simp_arith [wO_ninL]
    · simp_arith [true_and]
      have hH : ∀ w ∈ row.filter (fun w => !decide (w ∈ there)), w ∈ row := fun w hw2 => (List.mem_filter.mp hw2).1
      have hHl : (row.filter (fun w => !decide (w ∈ there))).length ≤ 41 := Nat.le_trans (List.length_filter_le _ _) hr
      generalize HH : row.filter (fun w => !decide (w ∈ there)) = here at hH hHl ⊢
      have HH := HH.symm
      have pI : ∀ {zs : List Int} {c : List Dt}, (∀ w ∈ zs, w ∈ row) → zs.length ≤ 41 → c.Sublist (zs.map .i) → c.length ≤ 41 ∧ ∀ y ∈ c, ∃ a, y = .i a ∧ 0 ≤ a ∧ a < 2 ^ 62 := by
        intro zs c h1 h2 h3
        refine ⟨by have := h3.length_le; rw [List.length_map] at this; omega, fun y hy => ?_⟩
        obtain ⟨a, ha, rfl⟩ := List.mem_map.mp (h3.subset hy)
        have := hw a (h1 a ha)
        exact ⟨a, rfl, by omega, by omega⟩
      have s1 := pI hT hTl (cutD_sub (l := some (-1)) (h := none))
      have s2 := pI hT hTl (cutD_sub (l := none) (h := some 1))
      have s3 := pI hH hHl (cutD_sub (l := none) (h := some 1))
      have s4 := pI hH hHl (cutD_sub (l := some (-1)) (h := none))
      have s5 := pI (fun w h => h) hr (cutD_sub (l := some least) (h := some (least + 1)))
      simp_arith! [List.flatten_cons, List.flatten_nil, List.append_nil]
      generalize cutD (there.map .i) (some (-1)) none = c1 at s1 ⊢
      generalize cutD (there.map .i) none (some 1) = c2 at s2 ⊢
      generalize cutD (here.map .i) none (some 1) = c3 at s3 ⊢
      generalize cutD (here.map .i) (some (-1)) none = c4 at s4 ⊢
      refine ⟨by omega, by omega, by omega, by omega, by omega, ?_⟩
      simp_arith! [true_and]
      generalize cutD (row.map .i) (some least) (some (least + 1)) = c5 at s5 ⊢
      refine ⟨by omega, ?_⟩
      have hp : ∀ y ∈ Dt.i 0 :: (c1 ++ c1 ++ c2 ++ c3 ++ c4 ++ c5), ∃ a, y = .i a ∧ 0 ≤ a ∧ a < 2 ^ 62 := by
        intro y hy
        simp only [List.mem_cons, List.mem_append] at hy
        rcases hy with rfl | ((((hy | hy) | hy) | hy) | hy) | hy
        · exact ⟨0, rfl, by omega, by omega⟩
        all_goals first | exact s1.2 y hy | exact s2.2 y hy | exact s3.2 y hy | exact s4.2 y hy | exact s5.2 y hy
      have hpl : (Dt.i 0 :: (c1 ++ c1 ++ c2 ++ c3 ++ c4 ++ c5)).length ≤ 300 := by simp; omega
      have hp0 : 0 < (Dt.i 0 :: (c1 ++ c1 ++ c2 ++ c3 ++ c4 ++ c5)).length := by simp
      generalize (Dt.i 0 :: (c1 ++ c1 ++ c2 ++ c3 ++ c4 ++ c5)) = pool at hp hpl hp0 ⊢
      rw [wS_seq]
      refine wS_for' ?_
      simp_arith [wO_neL0]
      refine ⟨by split <;> omega, fun k r => ∃ (t : Dt) (pool : List Dt) (o : Option Vl), r = [some (t, .t), some (.l (row.map .i), .c), some (.i odds, .c), some (.i least, .c), some (.l (there.map .i), .c), some (.l (here.map .i), .c), some (.l pool, .t), o, none, none] ∧ (∀ y ∈ pool, ∃ a, y = .i a ∧ 0 ≤ a ∧ a < 2 ^ 62) ∧ pool.length ≤ 300 + k ∧ 0 < pool.length ∧ k ≤ 4 ∧ Tp (n + 100 + (4 - k)) t, ⟨t4, pool, none, rfl, hp, hpl, hp0, by omega, ht.less (by omega)⟩, ?_, ?_⟩
      · rintro k x _ hx ⟨t, pool, o, rfl, hp, hpl, hp0, hk, ht⟩
        obtain ⟨rfl, hk2⟩ := rngD_at hx
        have hne : row ≠ [] := fun z => by subst z; simp at hk2
        have hk4 : k < 4 := by rw [if_pos hne] at hk2; omega
        have hlen : 0 < row.length := List.length_pos_iff.mpr hne
        simp_arith [true_and]
        refine draw_ok (n := n + 100 + (4 - (k + 1))) (ht.less (by omega)) (by omega) (by omega) fun k5 t5 a5 b5 h5 => ?_
        simp_arith [h5.zfl]
        refine wAt_I (P := fun w => w ∈ row) a5 b5 (fun y h => h) fun w hw2 => ?_
        simp_arith [true_and]
        have := hw w hw2
        refine ⟨by omega, t5, pool ++ [.i w], _, rfl, fun y hy => ?_, by simp; omega, by simp, by omega, h5⟩
        rcases List.mem_append.mp hy with hy | hy
        · exact hp y hy
        · rw [List.mem_singleton.mp hy]; exact ⟨w, rfl, by omega, by omega⟩
      · rintro _ ⟨t, pool, o, rfl, hp, hpl, hp0, hk, ht⟩
        simp_arith! [true_and]
        refine draw_ok (n := n + 99) (ht.less (by omega)) (by omega) (by omega) fun k5 t5 a5 b5 h5 => ?_
        simp_arith [h5.zfl]
        refine wAt_P a5 b5 hp fun y hy => ?_
        obtain ⟨m, rfl, m0, m1⟩ := hy
        simp_arith [true_and]
        simp_arith! [true_and]
        refine draw_ok (n := n) (u := 12) (h5.less (by omega)) (by omega) (by omega) fun k6 t6 a6 b6 h6 => ?_
        simp_arith [h6.zfl]
        refine ⟨fun _ => ⟨fun _ => ?_, fun _ => ?_⟩, fun _ => ?_⟩
        · simp_arith! [true_and]
          exact q here there (m + 1) t6 hS HH (by omega) (by omega) h6
        · simp_arith! [true_and]
          exact q here there m t6 hS HH (by omega) (by omega) h6
        · simp_arith! [true_and]
          exact q here there m t6 hS HH (by omega) (by omega) h6
theorem law_is_come_ok {here there : List Int} {m : Int} (h1 : here.length ≤ 500) (hw : ∀ w ∈ here, 1 ≤ w) (hv : ∀ w ∈ there, 1 ≤ w) {Q : Vl → Vl → Prop} (q : Q (.b (comeB here there m), .c) (.n, .c)) : wFn fn__law_is_come [(cot here there m, .c)] Q := by
  have h1' : here.length ≤ 1000000 := by omega
  simp_arith [fn__law_is_come, m__law_is_come, cot]
  simp_arith! [true_and]
  simp_arith! [wO_eqT0]
  by_cases h0 : there = []
  · subst h0
    have hb : comeB here [] m = decide (m = 0) := by simp [comeB]
    rw [hb] at q
    exact ⟨fun _ => q, fun h => absurd rfl h⟩
  · refine ⟨fun h => absurd h h0, fun _ => ?_⟩
    by_cases hm0 : m = 0
    · have hb : comeB here there m = false := by simp [comeB, hm0, h0]
      rw [hb] at q
      have n1 : ¬ m ∈ there := fun z => by have := hv m z; omega
      have n2 : ¬ m ∈ here := fun z => by have := hw m z; omega
      simp_arith! [wO_inT, n1]
      simp_arith! [wO_inT, n2]
      exact q
    · simp_arith! [wO_inT]
      refine ⟨fun hm => ?_, fun hm => ?_⟩
      · have hb : comeB here there m = (decide (m = lmax (there.headD 0) there.tail) || here.any (fun w => decide (w < m))) := by simp only [comeB, h0, hm0, hm, or_self, if_false, if_true]
        rw [hb] at q
        simp_arith [wO_maxT h0]
        refine ⟨fun he => ?_, fun he => ?_⟩
        · simpa [he] using q
        · refine ⟨by simpa using h1', _, _, lc_map (ltG m) _ _ fun x hx => ?_, ?_⟩
          · obtain ⟨w, _, rfl⟩ := List.mem_map.mp hx
            simp_arith [ltG]
          · rw [List.nil_append, lt_map (ltG m) fun w => rfl]
            simp_arith [true_and]
            rw [← any_lt]
            rw [decide_eq_false he, Bool.false_or] at q
            exact q
      · have hb : comeB here there m = (decide (m ∈ here) && decide (m < lmax (there.headD 0) there.tail)) := by simp only [comeB, h0, hm0, hm, or_self, if_false]
        rw [hb] at q
        simp_arith! [wO_inT, wO_maxT h0]
        refine ⟨fun he => ?_, fun he => ?_⟩
        · simpa [he] using q
        · simpa [he] using q
theorem first_of {P : Nat → Bool} : ∀ (n L : Nat), L < n → (∀ k, k < L → P k = false) → P L = true → ∃ rest, (List.range n).filter P = L :: rest
  | 0, L, h, _, _ => by omega
  | n + 1, L, h, h1, h2 => by
    rw [List.range_succ, List.filter_append]
    by_cases c : L < n
    · obtain ⟨rest, e⟩ := first_of n L c h1 h2
      exact ⟨rest ++ [n].filter P, by rw [e]; rfl⟩
    · have e : L = n := by omega
      subst e
      rw [List.filter_eq_nil_iff.mpr fun k hk => by rw [h1 k (List.mem_range.mp hk)]; simp]
      exact ⟨[], by simp [h2]⟩
theorem due_low {F : List Int} (hF : F.Pairwise (· < ·)) {t s i : Nat} (tr : Tri F t s i) : ∃ rest, (List.range (t + 1)).filter (fun k => decide (k = t) || !decide (F.getD k 0 ∈ bitF F (s + 2 ^ t))) = lowN s :: rest := by
  have nd : F.Nodup := hF.imp fun h => by omega
  have t1 := tr.t_
  have t3 := tr.lo
  have t4 := tr.hi
  refine first_of (t + 1) (lowN s) (by omega) (fun k hk => ?_) ?_
  · have k1 : ¬ k = t := by omega
    have k2 : k < F.length := by omega
    have b := bit_low k s hk
    have mk : F.getD k 0 ∈ bitF F (s + 2 ^ t) := (tri_mem hF tr).mpr ⟨Y.getD_mem k2, .inr ⟨by rw [idx_at nd k2]; omega, by rw [idx_at nd k2]; exact b⟩⟩
    rw [decide_eq_false k1, decide_eq_true mk]
    rfl
  · by_cases c2 : lowN s = t
    · rw [decide_eq_true c2]; rfl
    · have k2 : lowN s < F.length := by omega
      have b := bit_at (lowN s) s rfl
      have mk : ¬ F.getD (lowN s) 0 ∈ bitF F (s + 2 ^ t) := fun h => by
        have := ((tri_mem hF tr).mp h).2
        rw [idx_at nd k2, b] at this
        rcases this with z | ⟨_, z⟩
        · exact c2 z
        · cases z
      rw [decide_eq_false mk]
      simp
theorem number_due_ok {F there : List Int} {m : Int} (fk : Fk F) (cm : Cm F there m) {Q : Vl → Vl → Prop} (q : Q (.i (numF F there m), .c) (.n, .c)) : wFn fn__law_number_due [(cot (F.filter fun v => !decide (v ∈ there)) there m, .c)] Q := by
  have lim : LIM = 1000000 := rfl
  have hF := fk.srt
  have f60 := fk.len
  have nd := fk.nd
  have hho := cm_hou fk cm
  have hp : ((F.filter fun v => !decide (v ∈ there)) ++ there).Perm F := by have := hho.perm; simpa using this
  have hpl := hp.length_eq
  rw [List.length_append] at hpl
  have es : isrt ((F.filter fun v => !decide (v ∈ there)) ++ there) = F := isrt_eq hp.symm (hF.imp fun h => by omega)
  generalize (F.filter fun v => !decide (v ∈ there)) = here at *
  simp_arith [fn__law_number_due, m__law_number_due, cot]
  simp_arith! [true_and]
  rw [← List.map_append, wO_srtT (by rw [List.length_append]; omega), es]
  refine ⟨by omega, ?_⟩
  simp_arith [true_and]
  simp_arith! [true_and]
  rw [wO_eqT0]
  simp_arith [true_and]
  by_cases ne : there = []
  · have n0 := (cm_range hF cm).2.2.mpr ne
    rw [n0] at q
    exact ⟨fun _ => q, fun h => absurd ne h⟩
  obtain ⟨t, s, i, tr, eN, eb, em, eT, et, ei, es2⟩ := cm_tri hF cm ne
  obtain ⟨x1, x2⟩ := lmax_in ne
  have tF := cm.sub _ x1
  have mF := cm.mF ne
  rw [eN] at q
  have t1 := tr.t_
  have t2 := tr.s_
  have t3 := tr.lo
  have t4 := tr.hi
  refine ⟨fun h => absurd h ne, fun _ => ?_⟩
  rw [wS_seq]
  simp_arith [true_and]
  rw [wO_maxT ne]
  simp_arith [true_and]
  rw [wO_idxI tF, ← et]
  simp_arith [true_and]
  rw [wS_seq]
  refine wS_for' ?_
  simp_arith [true_and]
  refine ⟨by omega, fun k r => ∃ o : Option Vl, r = [some (.t [.t [.t (here.map .i), .t (there.map .i)], .t [.i m]], .c), some (.l (F.map .i), .c), some (.t (there.map .i), .c), some (.i t, .c), some (.i (baseN k 0), .c), some (.i ((2 : Int) ^ k), .c), some (.i (hvN (fun v => decide (v ∈ there)) (F.take k) : Nat), .c), o, none, none] ∧ (o = none ∨ ∃ z : Int, o = some (.i z, .c)), ⟨none, by simp [baseN, onesN, hvN], .inl rfl⟩, ?_, ?_⟩
  · rintro k x _ hx ⟨o, rfl, _⟩
    obtain ⟨rfl, hk⟩ := rngD_at hx
    have hk : k < t := by omega
    simp_arith [true_and]
    rw [Int.zero_add]
    have hkF : k < F.length := by omega
    have p2 : (2 : Int) ^ (k + 1) = 2 ^ k * 2 := Int.pow_succ 2 k
    have et : F.take (k + 1) = F.take k ++ [F[k]] := by rw [List.take_add_one, List.getElem?_eq_getElem hkF]; rfl
    have lt : (F.take k).length = k := by rw [List.length_take]; omega
    simp_arith! [true_and]
    refine ⟨by simp only [cMul, Bool.or_eq_true, Bool.and_eq_true, decide_eq_true_eq]; left; omega, ?_⟩
    refine wAt_i (by omega) (by omega) fun c hc => ?_
    rw [Int.toNat_natCast, List.getElem?_eq_getElem hkF, Option.some.injEq] at hc
    subst hc
    rw [wO_inT]
    simp_arith [true_and]
    refine ⟨some (.i k, .c), ?_, .inr ⟨_, rfl⟩⟩
    rw [et, hvN_snoc, lt, base_step, p2, Int.natCast_add, Int.natCast_mul, Int.natCast_pow]
    by_cases c : F[k] ∈ there
    · simp [c]
    · simp [c]
  · rintro _ ⟨o, rfl, ho⟩
    rw [rngD_len, Int.toNat_natCast, ← es2]
    have s60 : s < 2 ^ 60 := Nat.lt_of_lt_of_le t2 (Nat.pow_le_pow_right (by omega) (by omega))
    have z0 : baseN t s = baseN t 0 + t * s + onesN s := by
      unfold baseN
      rw [show onesN 0 = 0 by simp [onesN]]
      simp
    simp_arith! [true_and]
    refine ⟨by simp only [cMul, Bool.or_eq_true, Bool.and_eq_true, decide_eq_true_eq]; left; omega, ?_⟩
    rw [wS_seq]
    refine wS_wh (n := 61) (fun k r => ∃ (h : Nat) (f : Int), r = [some (.t [.t [.t (here.map .i), .t (there.map .i)], .t [.i m]], .c), some (.l (F.map .i), .c), some (.t (there.map .i), .c), some (.i t, .c), some (.i f, .c), some (.i ((2 : Int) ^ t), .c), some (.i (s : Int), .c), o, some (.i h, .c), none] ∧ h + 1 ≤ 2 ^ k ∧ f - h + onesN h = baseN t s) (by omega) ⟨s, _, rfl, by omega, ?_⟩ ?_
    · rw [z0, Int.add_mul]
      omega
    · rintro k _ ⟨h, f, rfl, h1, h2⟩
      simp_arith [true_and]
      refine ⟨fun c => ?_, fun c => ?_⟩
      · have h0 : h = 0 := by omega
        subst h0
        have f0 : f = baseN t s := by rw [← h2]; simp [onesN]
        subst f0
        have fo := due_low hF tr
        rw [← eb] at fo
        rw [wS_seq]
        with_reducible refine ho.elim (fun h => ?_) (fun h => h.elim fun z h => ?_)
        all_goals
          rw [h]
          simp_arith [true_and]
          refine ⟨by omega, by rw [rngD_len]; omega, _, _, lc_fM (f := fun k : Nat => Dt.i (0 + (k : Int))) (us := List.range (t + 1)) (fun k => decide (k = t) || !decide (F.getD k 0 ∈ there)) (fun k => .i k) fun k hk => ?_, ?_⟩
          · have hk := List.mem_range.mp hk
            rw [Int.zero_add]
            simp_arith [true_and]
            have hkF : k < F.length := by omega
            refine ⟨fun c => ?_, fun c => ?_⟩
            · rw [decide_eq_true (show k = t by omega)]; rfl
            · refine wAt_i (by omega) (by omega) fun c2 hc => ?_
              rw [Int.toNat_natCast, List.getElem?_eq_getElem hkF, Option.some.injEq] at hc
              subst hc
              rw [wO_ninT, decide_eq_false (show ¬ k = t by omega)]
              simp [List.getD_eq_getElem?_getD, List.getElem?_eq_getElem hkF]
          · refine fo.elim fun rest er => ?_
            rw [er]
            simp_arith [true_and]
            rw [wO_idxI mF, ← ei]
            simp_arith [true_and]
            exact q
      · obtain ⟨k, rfl⟩ : ∃ j, k = j + 1 := ⟨k - 1, by
          cases k with
          | zero => simp at h1; omega
          | succ k => rfl⟩
        refine ⟨k, by omega, ?_⟩
        have oe := onesN_eq h
        rw [pow2] at h1
        simp_arith! [true_and]
        simp_arith! [true_and]
        refine ⟨h / 2, f - (h / 2 : Nat), by simp, by omega, ?_⟩
        omega
theorem same_ok : ∀ (d : Nat) (x : Dt), pl d x = true → ∀ {Q : Vl → Vl → Prop}, Q (.b true, .c) (.n, .c) → wFn (fn__law_same d) [(x, .c), (x, .c)] Q
  | 0, x, h, _, _ => by simp [pl] at h
  | d + 1, x, h, Q, q => by
    have go : ∀ xs : List Dt, (∀ a ∈ xs, pl d a = true) → ∀ r0 : Ev, r0 = [r0.getD 0 none, r0.getD 1 none, none, none] → lcL [2, 3] (tgT [tgV 2, tgV 3]) mYes (mC (fn__law_same d) [.v 2, .v 3]) false (zipD xs xs) r0 [] = .ok ([] ++ (zipD xs xs).map fun _ => .b true) r0 := by
      intro xs hx r0 hr
      generalize r0.getD 0 none = o0 at hr
      generalize r0.getD 1 none = o1 at hr
      subst hr
      refine lc_map (fun _ => .b true) _ _ fun z hz => ?_
      obtain ⟨a, ha, rfl⟩ := zipD_same xs z hz
      simp_arith [↓wS_seq, wS_seq]
      refine same_ok d a (hx a ha) ?_
      simp_arith [↓wS_seq, wS_seq]
    cases x with
    | n => simp_arith [↓wS_seq, wS_seq, fn__law_same_s, m__law_same]; exact q
    | b p => simp_arith [↓wS_seq, wS_seq, fn__law_same_s, m__law_same]; exact q
    | i a => simp_arith [↓wS_seq, wS_seq, fn__law_same_s, m__law_same]; exact q
    | s z =>
      have h : PyData.strOk z = true := h
      simp_arith [↓wS_seq, wS_seq, fn__law_same_s, m__law_same, h]
      exact q
    | t xs =>
      simp only [pl, Bool.and_eq_true, List.all_eq_true, decide_eq_true_eq] at h
      simp_arith [↓wS_seq, wS_seq, fn__law_same_s, m__law_same]
      have hL : LIM = 1000000 := rfl
      refine ⟨by rw [zipD_len]; omega, _, _, go xs h.2 _ rfl, ?_⟩
      simp_arith [↓wS_seq, wS_seq, List.nil_append, map_true, all_true]
      exact q
    | l xs =>
      simp only [pl, Bool.and_eq_true, List.all_eq_true, decide_eq_true_eq] at h
      simp_arith [↓wS_seq, wS_seq, fn__law_same_s, m__law_same]
      have hL : LIM = 1000000 := rfl
      refine ⟨by rw [zipD_len]; omega, _, _, go xs h.2 _ rfl, ?_⟩
      simp_arith [↓wS_seq, wS_seq, List.nil_append, map_true, all_true]
      exact q
    | _ => simp [pl] at h
theorem standing_key_ok {F here there : List Int} {m : Int} (hF : F.Pairwise (· < ·)) (hl : F.length ≤ 60) (hs : ∀ w ∈ there, w ∈ F) (hp : (here ++ there).Perm F) {Q : Vl → Vl → Prop} (q : Q (.t ((keyT F (there, m)).map .i), .c) (.n, .c)) : wFn fn__law_standing_key [(cot here there m, .c)] Q := by
  have lim : LIM = 1000000 := rfl
  have hpl := hp.length_eq
  rw [List.length_append] at hpl
  have es : isrt (here ++ there) = F := isrt_eq hp.symm (hF.imp fun h => by omega)
  simp_arith [fn__law_standing_key, m__law_standing_key, cot]
  simp_arith! [true_and]
  rw [← List.map_append, wO_srtT (by rw [List.length_append]; omega), es]
  refine ⟨by omega, ?_⟩
  simp_arith! [true_and]
  rw [wO_eqT0]
  simp_arith [true_and]
  unfold keyT at q
  refine ⟨fun e => ?_, fun ne => ?_⟩
  · rw [if_pos e] at q
    simp_arith [true_and]
    exact q
  · rw [if_neg ne] at q
    have tw := twos_eq hF hs ne
    obtain ⟨x1, x2⟩ := lmax_in ne
    simp_arith! [true_and]
    rw [wS_seq]
    refine wS_for' ?_
    simp_arith [true_and]
    refine ⟨fun k r => ∃ o5 : Option Vl, r = [some (.t [.t [.t (here.map .i), .t (there.map .i)], .t [.i m]], .c), some (.l (F.map .i), .c), some (.t (there.map .i), .c), some (.i (2 ^ k : Nat), .c), some (.i (hvN (fun v => decide (v ∈ there) && decide (v ≠ lmax (there.headD 0) there.tail)) (F.take k) : Nat), .c), o5], ⟨none, rfl⟩, ?_, ?_⟩
    · rintro k x _ hx ⟨o5, rfl⟩
      rw [List.getElem?_map, Option.map_eq_some_iff] at hx
      obtain ⟨v, hv, rfl⟩ := hx
      have hk := (List.getElem?_eq_some_iff.mp hv).1
      have et : F.take (k + 1) = F.take k ++ [v] := by rw [List.take_add_one, hv]; rfl
      have lt : (F.take k).length = k := by rw [List.length_take]; omega
      simp_arith [wO_inT, wO_maxT ne]
      have hn : hvN (fun v => decide (v ∈ there) && decide (v ≠ lmax (there.headD 0) there.tail)) (F.take (k + 1)) = hvN (fun v => decide (v ∈ there) && decide (v ≠ lmax (there.headD 0) there.tail)) (F.take k) + 2 ^ k * (if v ∈ there ∧ v ≠ lmax (there.headD 0) there.tail then 1 else 0) := by
        rw [et, hvN_snoc, lt]
        simp only [Bool.and_eq_true, decide_eq_true_eq]
      have h2 : ((2 ^ k : Nat) : Int) * 2 = ((2 ^ (k + 1) : Nat) : Int) := by rw [Nat.pow_succ]; rfl
      rw [hn, h2]
      refine ⟨fun c => ⟨some (.i v, .c), ?_⟩, fun c => ⟨some (.i v, .c), ?_⟩⟩
      · by_cases d : v = lmax (there.headD 0) there.tail
        · rw [if_neg (by simp [d]), if_neg (by simp [d])]
          simp
        · rw [if_pos d, if_pos ⟨c, d⟩]
          simp
      · rw [if_neg (by simp [c])]
        simp
    · rintro _ ⟨o5, rfl⟩
      rw [List.take_length, tw]
      simp_arith [wO_maxT ne]
      exact q
theorem is_come_ok {here there : List Int} {m : Int} (h1 : here.length ≤ 500) {Q : Vl → Vl → Prop} (q : Q (.b (comeB here there m), .c) (.n, .c)) : wFn fn_is_come [(cot here there m, .c)] Q := by
  have h1' : here.length ≤ 1000000 := by omega
  simp_arith [fn_is_come, m_is_come, cot]
  simp_arith! [true_and]
  simp_arith! [true_and]
  by_cases h0 : there = []
  · subst h0
    have hb : comeB here [] m = decide (m = 0) := by simp [comeB]
    rw [hb] at q
    refine ⟨fun _ => ⟨fun _ => q, fun h => ?_⟩, fun h => absurd rfl h⟩
    have : ¬ m = 0 := fun z => h (by rw [z]; rfl)
    simpa [this] using q
  · have hl : ¬ (there.length : Int) = 0 := fun h => h0 (List.eq_nil_of_length_eq_zero (by omega))
    refine ⟨fun h => absurd h hl, fun _ => ⟨fun hm => ?_, fun hm0 => ?_⟩⟩
    · have hb : comeB here there m = false := by simp [comeB, hm, h0]
      rw [hb] at q
      refine ⟨fun h => absurd (h.trans hm) hl, fun _ => q⟩
    · simp_arith! [wO_inT, wO_inL]
      refine ⟨fun hm => ?_, fun hm => ?_⟩
      · have hb : comeB here there m = (decide (m = lmax (there.headD 0) there.tail) || here.any (fun w => decide (w < m))) := by simp only [comeB, h0, hm0, hm, or_self, if_false, if_true]
        rw [hb] at q
        simp_arith [wO_maxT h0, wO_maxL h0]
        refine ⟨fun he => ?_, fun he => ?_⟩
        · simpa [he] using q
        · refine ⟨by simpa using h1', _, _, lc_map (ltG m) _ _ fun x hx => ?_, ?_⟩
          · obtain ⟨w, _, rfl⟩ := List.mem_map.mp hx
            simp_arith [ltG]
          · rw [List.nil_append, lt_map (ltG m) fun w => rfl]
            simp_arith [true_and]
            rw [← any_lt]
            rw [decide_eq_false he, Bool.false_or] at q
            exact q
      · have hb : comeB here there m = (decide (m ∈ here) && decide (m < lmax (there.headD 0) there.tail)) := by simp only [comeB, h0, hm0, hm, or_self, if_false]
        rw [hb] at q
        simp_arith! [wO_inT, wO_inL, wO_maxT h0, wO_maxL h0]
        refine ⟨fun he => ?_, fun he => ?_⟩
        · simpa [he] using q
        · simpa [he] using q
theorem look_one_ok {x : Dt} {m : Dt} {Q : Vl → Vl → Prop} (q : Q (.n, .c) (.n, .c)) : wFn fn_look_one [(.t [x, .t [m]], .c)] Q := by
  simp_arith [fn_look_one, m_look_one]
  exact q
theorem came_ok {here there : List Int} {m : Int} (h1 : here.length ≤ 500) {Q : Vl → Vl → Prop} (q : Q (.b (comeB here there m), .c) (.n, .c)) : wFn fn_came [(cot here there m, .c)] Q := by
  simp_arith [fn_came, m_came]
  simp_arith! [true_and]
  refine look_one_ok ?_
  simp_arith [true_and]
  refine is_come_ok h1 ?_
  simp_arith [true_and]
  exact q
theorem two_to_ok {n : Int} (h : n ≤ 1000) (h' : -1000 ≤ n) {Q : Vl → Vl → Prop} (q : Q (.i (2 ^ n.toNat), .c) (.n, .c)) : wFn fn_two_to [(.i n, .c)] Q := by
  simp_arith [↓wS_seq, wS_seq, fn_two_to, m_two_to]
  refine wS_for' ?_
  simp_arith [↓wS_seq, wS_seq]
  refine ⟨⟨by omega, limI (by omega)⟩, fun k r => ∃ o, r = [some (.i n, .c), some (.i (2 ^ k), .c), o], ⟨_, rfl⟩, ?_, ?_⟩
  · rintro k x _ hx ⟨o, rfl⟩
    simp_arith [↓wS_seq, wS_seq]
    exact ⟨_, by rw [Int.pow_succ]⟩
  · rintro _ ⟨o, rfl⟩
    simp_arith [↓wS_seq, wS_seq]
    rw [rngD_len]
    exact q
theorem ahead_many_ok {t : Nat} (h : t ≤ 1000) {Q : Vl → Vl → Prop} (q : Q (.i (3 + t + ((t : Int) - 2) * 2 ^ t), .c) (.n, .c)) : wFn fn_ahead_many [(.i t, .c)] Q := by
  simp_arith [fn_ahead_many, m_ahead_many]
  refine two_to_ok (by omega) (by omega) ?_
  rw [Int.toNat_natCast]
  simp_arith [true_and]
  exact ⟨cMulL (by omega) (by omega), q⟩
theorem came_many_ok {t : Nat} (h : t ≤ 1000) {Q : Vl → Vl → Prop} (q : Q (.i (3 + t + ((t : Int) - 2) * 2 ^ t), .c) (.n, .c)) : wFn fn_came_many [(.i t, .c)] Q := by
  simp_arith [fn_came_many, m_came_many]
  refine ahead_many_ok h ?_
  simp_arith [true_and]
  exact q
theorem ones_in_ok {n : Nat} (h : n < 2 ^ 1000) {Q : Vl → Vl → Prop} (q : Q (.i (onesN n), .c) (.n, .c)) : wFn fn_ones_in [(.i n, .c)] Q := by
  simp_arith [fn_ones_in, m_ones_in]
  simp_arith! [true_and]
  rw [wS_seq]
  refine wS_wh (n := 1000) (fun k r => ∃ a x : Nat, r = [some (.i a, .c), some (.i x, .c)] ∧ x + onesN a = onesN n ∧ a < 2 ^ k) (by omega) ⟨n, 0, rfl, by omega, h⟩ ?_
  rintro k _ ⟨a, x, rfl, e, ha⟩
  simp_arith [true_and]
  refine ⟨fun hc => ?_, fun hc => ?_⟩
  · have hc : a = 0 := by omega
    subst hc
    have : onesN 0 = 0 := by simp [onesN]
    rw [this] at e
    simp_arith [true_and]
    obtain rfl : x = onesN n := by omega
    exact q
  · have hc : 0 < a := by omega
    have hk : k ≠ 0 := fun c => by subst c; simp at ha; omega
    obtain ⟨k, rfl⟩ : ∃ j, k = j + 1 := ⟨k - 1, by omega⟩
    refine ⟨k, by omega, ?_⟩
    have e1 := onesN_eq a
    rw [Nat.pow_succ] at ha
    simp_arith [true_and]
    refine ⟨a / 2, x + a % 2, ?_, by omega, by omega⟩
    simp [Dt.flat]
theorem lots_ahead_ok {t s : Nat} (ht : t ≤ 1000) (h : s < 2 ^ 1000) {Q : Vl → Vl → Prop} (q : Q (.i (t * s + onesN s), .c) (.n, .c)) : wFn fn_lots_ahead [(.i t, .c), (.i s, .c)] Q := by
  simp_arith [fn_lots_ahead, m_lots_ahead]
  refine ⟨cMulL (by omega) (by omega), ?_⟩
  refine ones_in_ok h ?_
  simp_arith [true_and]
  exact q
theorem lowest_in_ok {n : Nat} (h : n < 2 ^ 1000) {Q : Vl → Vl → Prop} (q : Q (.i (lowN n), .c) (.n, .c)) : wFn fn_lowest_in [(.i n, .c)] Q := by
  simp_arith [fn_lowest_in, m_lowest_in]
  simp_arith! [true_and]
  rw [wS_seq]
  refine wS_wh (n := 1000) (fun k r => ∃ a x : Nat, r = [some (.i a, .c), some (.i x, .c)] ∧ x + lowN a = lowN n ∧ a < 2 ^ k) (by omega) ⟨n, 0, rfl, by omega, h⟩ ?_
  rintro k _ ⟨a, x, rfl, e, ha⟩
  simp_arith [true_and]
  refine ⟨fun hc => ?_, fun hc => ?_⟩
  · have hc : ¬ a % 2 = 1 := by omega
    have : lowN a = 0 := by rw [lowN, dif_neg hc]
    rw [this] at e
    simp_arith [true_and]
    obtain rfl : x = lowN n := by omega
    exact q
  · have hc : a % 2 = 1 := by omega
    have hk : k ≠ 0 := fun c => by subst c; simp at ha; omega
    obtain ⟨k, rfl⟩ : ∃ j, k = j + 1 := ⟨k - 1, by omega⟩
    refine ⟨k, by omega, ?_⟩
    have e1 : lowN a = 1 + lowN (a / 2) := by rw [lowN, dif_pos hc]
    rw [Nat.pow_succ] at ha
    simp_arith [true_and]
    refine ⟨a / 2, x + 1, ?_, by omega, by omega⟩
    simp [Dt.flat]
theorem came_at_ok {F ws : List Int} {x : Dt} (hx : x = .l (ws.map .i) ∨ x = .t (ws.map .i)) (hF : isrt ws = F) (hl : F.length ≤ 60) {t s i : Nat} (ht : t < F.length) (hs : s < 2 ^ t) (h1 : lowN s ≤ i) (h2 : i ≤ t) {N : Int} (hN : N = baseN t s + i - lowN s) {Q : Vl → Vl → Prop} (q : Q (cot (F.filter fun v => !decide (v ∈ bitF F (s + 2 ^ t))) (bitF F (s + 2 ^ t)) (F.getD i 0), .c) (.n, .c)) : wFn fn_came_at [(x, .c), (.i N, .c)] Q := by
  have lim : LIM = 1000000 := rfl
  have hwl : ws.length = F.length := by rw [← hF, isrt_len]
  have b1 := base_1 t s (by omega)
  have bn := base_next t s
  have ll := low_le t s hs
  have bt : baseN t (s + 1) ≤ baseN t (2 ^ t) := base_le (by omega) (Nat.le_refl _)
  have bu : baseN (t + 1) 0 ≤ baseN F.length 0 := base_up (by omega)
  have b0 := base_le (t := t) (s := 0) (s' := s) (Nat.zero_le _) (by omega)
  rw [base_top] at bt
  have z0 : ∀ n : Nat, baseN n 0 = 3 + n + ((n : Int) - 2) * 2 ^ n := fun n => by unfold baseN; rw [show onesN 0 = 0 by simp [onesN]]; simp
  have zs : ∀ m : Nat, baseN t m = baseN t 0 + t * m + onesN m := fun m => by rw [z0]; rfl
  rcases hx with rfl | rfl
  all_goals
    simp_arith [fn_came_at, m_came_at]
    rw [wS_seq]
    simp_arith [true_and]
    first | rw [wO_srtL (by omega)] | rw [wO_srtT (by omega)]
    rw [hF]
    simp_arith [true_and]
    rw [wS_seq]
    simp_arith [true_and]
    refine ⟨fun _ => came_many_ok (t := F.length) (by omega) ?_, fun h => absurd (show 0 ≤ N by omega) (by omega)⟩
    rw [← z0]
    simp_arith [true_and]
    refine ⟨fun h => absurd (show N < baseN F.length 0 by omega) (by omega), fun _ => ?_⟩
    rw [wS_seq]
    simp_arith [true_and]
    refine ⟨fun h => absurd h (by omega), fun _ => ?_⟩
    rw [wS_seq]
    simp_arith [true_and]
    refine wE_fit ?_
    simp_arith [true_and]
    refine ⟨0, rfl, ?_⟩
    simp_arith [true_and]
    refine ⟨F.length, fun m => decide (baseN m.toNat 0 ≤ N), rfl, fun a b h1 h2 h3 h4 => ?_, fun m h1 h2 => ?_, fun r r0 r1 r2 => ?_⟩
    · rw [decide_eq_true_eq] at h4 ⊢
      have := base_up (t := a.toNat) (t' := b.toNat) (by omega)
      omega
    · obtain ⟨k, rfl⟩ := Int.eq_ofNat_of_zero_le (show 0 ≤ m by omega)
      simp_arith [true_and]
      refine ahead_many_ok (t := k) (by omega) ?_
      rw [← z0]
      simp_arith [true_and]
      rfl
    · have er : r = (t : Int) := by
        by_cases c1 : r < t
        · have := r2 t c1 (by omega)
          rw [decide_eq_false_iff_not] at this
          exact absurd (show baseN (t : Int).toNat 0 ≤ N by rw [show ((t : Int)).toNat = t from rfl]; omega) this
        · by_cases c2 : (t : Int) < r
          · rcases r1 with e | ⟨e1, e2⟩
            · omega
            · rw [decide_eq_true_eq] at e2
              have := base_up (t := t + 1) (t' := r.toNat) (by omega)
              omega
          · omega
      subst er
      simp_arith [true_and]
      rw [wS_seq]
      simp_arith [true_and]
      refine ahead_many_ok (t := t) (by omega) ?_
      rw [← z0]
      simp_arith [true_and]
      rw [wS_seq]
      simp_arith [true_and]
      refine wE_fit ?_
      simp_arith [true_and]
      refine ⟨0, rfl, ?_⟩
      refine two_to_ok (by omega) (by omega) ?_
      simp_arith [true_and]
      have p1 : 2 ^ t ≤ 2 ^ 60 := Nat.pow_le_pow_right (by omega) (by omega)
      have p2 : ∀ a : Nat, a < 2 ^ t → a < 2 ^ 1000 := fun a ha => Nat.lt_of_lt_of_le ha (Nat.pow_le_pow_right (by omega) (by omega))
      refine ⟨2 ^ t, fun m => decide (baseN t m.toNat - baseN t 0 ≤ N - baseN t 0), ?_, fun a b h1 h2 h3 h4 => ?_, fun m h1 h2 => ?_, fun r r0 r1 r2 => ?_⟩
      · rfl
      · rw [decide_eq_true_eq] at h4 ⊢
        have h3 : b < ((2 ^ t : Nat) : Int) := by rw [Int.natCast_pow]; exact h3
        have := base_le (t := t) (s := a.toNat) (s' := b.toNat) (by omega) (by omega)
        omega
      · obtain ⟨k, rfl⟩ := Int.eq_ofNat_of_zero_le (show 0 ≤ m by omega)
        have h2 : (k : Int) < ((2 ^ t : Nat) : Int) := by rw [Int.natCast_pow]; exact h2
        have hk : k < 2 ^ t := by omega
        simp_arith [true_and]
        refine lots_ahead_ok (t := t) (s := k) (by omega) (p2 k hk) ?_
        simp_arith [true_and]
        rw [show (((k : Nat) : Int)).toNat = k from rfl, zs k, show baseN t 0 + (t : Int) * k + onesN k - baseN t 0 = (t : Int) * k + onesN k by omega]
      · have er : r = (s : Int) := by
          have h2t : ((2 ^ t : Nat) : Int) = (2 : Int) ^ t := Int.natCast_pow 2 t
          by_cases c1 : r < s
          · have := r2 s c1 (by rw [← h2t]; omega)
            rw [decide_eq_false_iff_not] at this
            exact absurd (show baseN t (s : Int).toNat - baseN t 0 ≤ N - baseN t 0 by rw [show ((s : Int)).toNat = s from rfl]; omega) this
          · by_cases c2 : (s : Int) < r
            · rcases r1 with e | ⟨e1, e2⟩
              · omega
              · rw [decide_eq_true_eq] at e2
                rw [← h2t] at e1
                have := base_le (t := t) (s := s + 1) (s' := r.toNat) (by omega) (by omega)
                omega
            · omega
        subst er
        simp_arith [true_and]
        rw [wS_seq]
        simp_arith [true_and]
        refine lots_ahead_ok (t := t) (s := s) (by omega) (p2 s hs) ?_
        simp_arith [true_and]
        refine ⟨rfl, ?_⟩
        rw [show N - baseN t 0 - ((t : Int) * s + onesN s) = (i : Int) - lowN s by have := zs s; omega]
        rw [wS_seq]
        simp_arith [true_and]
        refine two_to_ok (by omega) (by omega) ?_
        rw [show (2 : Int) ^ ((t : Int)).toNat = ((2 ^ t : Nat) : Int) by rw [Int.natCast_pow]; rfl]
        simp_arith [true_and]
        refine ⟨rfl, ?_⟩
        rw [show (s : Int) + ((2 ^ t : Nat) : Int) = ((s + 2 ^ t : Nat) : Int) by omega]
        have een : enumD 0 (F.map .i) = (List.range F.length).map fun j : Nat => Dt.t [.i (j : Int), .i (F.getD j 0)] := by
          refine List.ext_getElem? fun k => ?_
          rw [List.getElem?_map]
          by_cases hk : k < F.length
          · rw [List.getElem?_range hk]
            have hlen : k < (enumD 0 (F.map Dt.i)).length := by rw [enumD_len, List.length_map]; exact hk
            rw [List.getElem?_eq_getElem hlen]
            obtain ⟨d, h1, h2⟩ := enumD_mem (List.getElem?_eq_getElem hlen)
            rw [List.getElem?_map, List.getElem?_eq_getElem hk] at h1
            cases h1
            rw [h2]; simp [List.getD_eq_getElem?_getD, List.getElem?_eq_getElem hk]
          · rw [List.getElem?_eq_none (by rw [enumD_len, List.length_map]; omega), List.getElem?_eq_none (by simp; omega)]; rfl
        rw [wS_seq]
        simp_arith [true_and]
        rw [een]
        refine ⟨by simp; omega, _, _, lc_fM (fun j => bitN (s + 2 ^ t) j) (fun j => .i (F.getD j 0)) fun j hj => ?_, ?_⟩
        · have hj := List.mem_range.mp hj
          simp_arith [true_and]
          refine two_to_ok (by omega) (by omega) ?_
          simp_arith [true_and]
          rw [show (2 : Int) ^ ((j : Int)).toNat = ((2 ^ j : Nat) : Int) by rw [Int.natCast_pow]; rfl]
          have pj : 0 < 2 ^ j := Nat.two_pow_pos j
          refine ⟨⟨by omega, ?_⟩, ?_⟩
          · rw [Int.natAbs_natCast, Nat.log2_two_pow]
            omega
          · unfold bitN
            have e : ((s + 2 ^ t : Nat) : Int) / ((2 ^ j : Nat) : Int) % 2 = (((s + 2 ^ t) / 2 ^ j % 2 : Nat) : Int) := by
              rw [Int.natCast_emod, Int.natCast_ediv]; rfl
            rw [e]
            by_cases c : (s + 2 ^ t) / 2 ^ j % 2 = 1
            · rw [decide_eq_true c, decide_eq_true (by omega)]
            · rw [decide_eq_false c, decide_eq_false (by omega)]
        · rw [show ((List.range F.length).filter fun j => bitN (s + 2 ^ t) j).map (fun j => Dt.i (F.getD j 0)) = (bitF F (s + 2 ^ t)).map .i by unfold bitF; rw [List.map_map]; rfl]
          simp_arith [true_and]
          rw [wS_seq]
          simp_arith [true_and]
          have bl : (bitF F (s + 2 ^ t)).length ≤ 60 := by
            have : ((List.range F.length).filter fun j => bitN (s + 2 ^ t) j).length ≤ (List.range F.length).length := List.length_filter_le _ _
            unfold bitF
            rw [List.length_map]
            rw [List.length_range] at this
            omega
          refine ⟨by omega, _, _, lc_fI (fun w => !decide (w ∈ bitF F (s + 2 ^ t))) .i fun w hw => ?_, ?_⟩
          · simp_arith [true_and]
            rw [wO_ninL]
            simp_arith [true_and]
          · simp_arith [true_and]
            refine two_to_ok (by omega) (by omega) ?_
            rw [show (2 : Int) ^ ((t : Int)).toNat = ((2 ^ t : Nat) : Int) by rw [Int.natCast_pow]; rfl]
            simp_arith [true_and]
            rw [show ((s + 2 ^ t : Nat) : Int) - ((2 ^ t : Nat) : Int) = (s : Int) by omega]
            refine lowest_in_ok (n := s) (p2 s hs) ?_
            simp_arith [true_and]
            rw [show (lowN s : Int) + ((i : Int) - lowN s) = (i : Int) by omega]
            refine wAt_M (by omega) (by omega) fun v hv => ?_
            rw [show ((i : Int)).toNat = i from rfl] at hv
            rw [show F.getD i 0 = v by rw [List.getD_eq_getElem?_getD, hv]; rfl] at q
            exact q
theorem came_at_0 {F ws : List Int} {x : Dt} (hx : x = .l (ws.map .i) ∨ x = .t (ws.map .i)) (hF : isrt ws = F) (hl : F.length ≤ 60) {Q : Vl → Vl → Prop} (q : Q (cot F [] 0, .c) (.n, .c)) : wFn fn_came_at [(x, .c), (.i 0, .c)] Q := by
  have lim : LIM = 1000000 := rfl
  have hwl : ws.length = F.length := by rw [← hF, isrt_len]
  have b := base_1 F.length 0 (by have := pow1 F.length; omega)
  have z0 : baseN F.length 0 = 3 + F.length + ((F.length : Int) - 2) * 2 ^ F.length := by unfold baseN; rw [show onesN 0 = 0 by simp [onesN]]; simp
  rcases hx with rfl | rfl
  all_goals
    simp_arith [fn_came_at, m_came_at]
    rw [wS_seq]
    simp_arith [true_and]
    first | rw [wO_srtL (by omega)] | rw [wO_srtT (by omega)]
    rw [hF]
    simp_arith [true_and]
    rw [wS_seq]
    simp_arith [true_and]
    refine came_many_ok (t := F.length) (by omega) ?_
    rw [← z0]
    simp_arith [true_and]
    refine ⟨fun h => absurd (show (0 : Int) < baseN F.length 0 by omega) (by omega), fun _ => ?_⟩
    rw [wS_seq]
    simp_arith [true_and]
    exact q
/-- the house of a number -/
theorem came_at_num {F ws : List Int} {x : Dt} (hx : x = .l (ws.map .i) ∨ x = .t (ws.map .i)) (hF : isrt ws = F) (hs : F.Pairwise (· < ·)) (hl : F.length ≤ 60) {there : List Int} {m : Int} (h : Cm F there m) {N : Int} (hN : N = numF F there m) {Q : Vl → Vl → Prop} (q : Q (cot (F.filter fun v => !decide (v ∈ there)) there m, .c) (.n, .c)) : wFn fn_came_at [(x, .c), (.i N, .c)] Q := by
  by_cases ne : there = []
  · have r := (cm_range hs h).2.2.mpr ne
    have m0 := h.nil ne
    subst ne m0
    rw [hN, r]
    refine came_at_0 hx hF hl ?_
    rwa [show (F.filter fun v => !decide (v ∈ ([] : List Int))) = F from List.filter_eq_self.mpr fun v _ => by simp] at q
  · obtain ⟨t, s, i, tr, e1, e2, e3, _⟩ := cm_tri hs h ne
    refine came_at_ok hx hF hl tr.t_ tr.s_ tr.lo tr.hi (hN.trans e1) ?_
    rw [← e2, ← e3]
    exact q
theorem sum_two {p : Int → Bool} : ∀ {F : List Int} (k : Nat), F.Nodup → ((F.filter p).map fun w => (2 : Int) ^ (k + F.idxOf w)).sum = 2 ^ k * (hvN p F : Nat)
  | [], k, _ => by simp [hvN]
  | a :: F, k, nd => by
    obtain ⟨n1, n2⟩ := List.nodup_cons.mp nd
    have ih := sum_two (p := p) (F := F) (k + 1) n2
    have e : ((F.filter p).map fun w => (2 : Int) ^ (k + (a :: F).idxOf w)) = (F.filter p).map fun w => (2 : Int) ^ (k + 1 + F.idxOf w) := List.map_congr_left fun w hw => by
      have hw : w ∈ F := (List.mem_filter.mp hw).1
      have : (a == w) = false := by simp; intro c; exact n1 (c ▸ hw)
      rw [List.idxOf_cons, this]
      simp only [cond_false]
      rw [show k + (F.idxOf w + 1) = k + 1 + F.idxOf w by omega]
    rw [hvN, List.filter_cons]
    cases hp : p a with
    | true =>
      simp only [if_true, List.map_cons, List.sum_cons, e, ih, List.idxOf_cons_self, Nat.add_zero]
      rw [Int.pow_succ, Int.natCast_add, Int.mul_add, Int.natCast_mul, Int.mul_assoc]
      simp
    | false =>
      simp only [Bool.false_eq_true, if_false, e, ih]
      rw [Int.pow_succ, Int.natCast_add, Int.mul_add, Int.natCast_mul, Int.mul_assoc]
      simp
theorem came_number_ok {folk here there : List Int} {m : Int} (f : Fk folk) (h : Hou folk 1 [here, there] [m]) (hm : there ≠ [] → m ∈ folk) (hc : comeB here there m = true) {Q : Vl → Vl → Prop} (q : Q (.i (numF folk there m), .c) (.n, .c)) : wFn fn_came_number [(hs [here, there] [m], .c)] Q := by
  have lim : LIM = 1000000 := rfl
  have f60 := f.len
  have l1 : here.length ≤ 60 := Nat.le_trans (h.rlen (by simp)) f.len
  have l2 : there.length ≤ 60 := Nat.le_trans (h.rlen (by simp)) f.len
  have sub : ∀ w ∈ there, w ∈ folk := fun w hw => h.mem (r := there) (by simp) hw
  have s2 : there.Pairwise (· < ·) := h.srt there (by simp)
  have ef : isrt (here ++ there) = folk := isrt_eq (by have := h.perm; simpa using this.symm) (f.srt.imp fun h => by omega)
  rw [show hs [here, there] [m] = cot here there m from rfl]
  simp_arith [fn_came_number, m_came_number]
  simp_arith! [true_and]
  rw [cot]
  refine look_one_ok ?_
  simp_arith [true_and]
  simp_arith! [true_and]
  refine is_come_ok (by omega) ?_
  rw [hc]
  simp_arith [cot]
  simp_arith! [true_and]
  simp_arith! [true_and]
  by_cases h0 : there = []
  · subst h0
    rw [numF, if_pos rfl] at q
    simp_arith [true_and]
    exact q
  · rw [numF, if_neg h0] at q
    have hl : ¬ (there.length : Int) = 0 := fun h => h0 (List.eq_nil_of_length_eq_zero (by omega))
    have hm := hm h0
    obtain ⟨hmx, hmx2⟩ := lmax_in h0
    generalize htop : lmax (there.headD 0) there.tail = top at q hmx hmx2
    have htF := sub top hmx
    refine ⟨fun c => absurd c hl, fun _ => ?_⟩
    simp_arith! [true_and]
    rw [← List.map_append]
    simp_arith [wO_srtL (show (here ++ there).length ≤ 1000 by rw [List.length_append]; omega)]
    rw [ef]
    refine ⟨by omega, ?_⟩
    simp_arith! [true_and]
    rw [wO_maxT h0, htop]
    simp_arith [true_and]
    rw [wO_idxI htF]
    have htl : folk.idxOf top ≤ 60 := by have := List.idxOf_lt_length_iff.mpr htF; omega
    simp_arith! [true_and]
    simp_arith! [true_and]
    refine ⟨by omega, _, _, lc_mI (fun w => .i (2 ^ (folk.idxOf w))) fun a ha => ?_, ?_⟩
    · simp_arith [true_and]
      rw [wO_idxI (sub a ha)]
      have := List.idxOf_lt_length_iff.mpr (sub a ha)
      simp_arith [true_and]
      refine two_to_ok (by omega) (by omega) ?_
      rw [Int.toNat_natCast]
    · rw [show (there.map fun w => Dt.i (2 ^ (folk.idxOf w))) = (there.map fun w => (2 : Int) ^ (folk.idxOf w)).map .i by rw [List.map_map]; rfl]
      simp_arith [true_and]
      have hsum : (there.map fun w => (2 : Int) ^ (folk.idxOf w)).sum = ((hvN (fun v => decide (v ∈ there)) (folk.take (folk.idxOf top)) : Nat) : Int) + 2 ^ folk.idxOf top := by
        have e1 := there_filter f.srt s2 sub
        have e2 := sum_two (p := fun v => decide (v ∈ there)) (F := folk) 0 f.nd
        rw [← e1] at e2
        simp only [Nat.zero_add] at e2
        rw [e2, hv_split f.srt htF (decide_eq_true hmx) fun v hv => hmx2 v (by simpa using hv)]
        simp
      rw [hsum]
      refine two_to_ok (by omega) (by omega) ?_
      rw [Int.toNat_natCast]
      simp_arith [true_and]
      rw [Int.add_sub_cancel]
      have hs2 := hvN_hi (fun v => decide (v ∈ there)) (folk.take (folk.idxOf top))
      rw [List.length_take] at hs2
      generalize hvN (fun v => decide (v ∈ there)) (folk.take (folk.idxOf top)) = s at q hs2
      have hs3 : s < 2 ^ 1000 := Nat.lt_of_lt_of_le hs2 (Nat.pow_le_pow_right (by omega) (by omega))
      refine ahead_many_ok (by omega) ?_
      simp_arith [true_and]
      refine lots_ahead_ok (by omega) hs3 ?_
      simp_arith [true_and]
      rw [wO_idxI hm]
      simp_arith [true_and]
      refine lowest_in_ok hs3 ?_
      simp_arith [true_and]
      unfold baseN at q
      rw [show 3 + (folk.idxOf top : Int) + ((folk.idxOf top : Int) - 2) * 2 ^ folk.idxOf top + ((folk.idxOf top : Int) * s + onesN s) = 3 + (folk.idxOf top : Int) + ((folk.idxOf top : Int) - 2) * 2 ^ folk.idxOf top + (folk.idxOf top : Int) * s + onesN s by omega]
      exact q
theorem number_right_ok {F : List Int} (fk : Fk F) {N : Int} (h0 : 0 ≤ N) (h1 : N < baseN F.length 0) {Q : Vl → Vl → Prop} (q : Q (.b true, .c) (.n, .c)) : wFn fn__law_number_right [(.l (F.map .i), .c), (.i N, .c), (.i (baseN F.length 0), .c)] Q := by
  have lim : LIM = 1000000 := rfl
  have hF := fk.srt
  have f60 := fk.len
  have pos : ∀ w ∈ F, 1 ≤ w := fun w h => (fk.bd w h).1
  have ir : isrt F = F := isrt_id (hF.imp fun h => by omega)
  obtain ⟨there, m, cm, nm⟩ := cm_ex hF pos h0 h1
  have hho := cm_hou fk cm
  have hp : ((F.filter fun v => !decide (v ∈ there)) ++ there).Perm F := by have := hho.perm; simpa using this
  have hpl := hp.length_eq
  rw [List.length_append] at hpl
  have es : isrt ((F.filter fun v => !decide (v ∈ there)) ++ there) = F := isrt_eq hp.symm (hF.imp fun h => by omega)
  have posA : ∀ w ∈ F.filter fun v => !decide (v ∈ there), 1 ≤ w := fun w h => pos w (List.mem_filter.mp h).1
  have posB : ∀ w ∈ there, 1 ≤ w := fun w h => pos w (cm.sub w h)
  simp_arith [fn__law_number_right, m__law_number_right]
  simp_arith! [true_and]
  refine came_at_num (.inl rfl) ir hF f60 cm nm.symm ?_
  simp_arith [wM_cot, flat_cot]
  rw [wS_seq]
  simp_arith [cot]
  rw [← List.map_append, wO_srtT (by rw [List.length_append]; omega), es]
  simp_arith [true_and]
  rw [wO_neLi]
  simp_arith [true_and]
  rw [show Dt.t [.t [.t ((F.filter fun v => !decide (v ∈ there)).map .i), .t (there.map .i)], .t [.i m]] = cot (F.filter fun v => !decide (v ∈ there)) there m from rfl]
  refine ⟨by omega, ?_⟩
  refine law_is_come_ok (by omega) posA posB ?_
  rw [cm.ok]
  simp_arith [wM_cot, flat_cot]
  refine came_ok (by omega) ?_
  rw [cm.ok]
  simp_arith [wM_cot, flat_cot]
  simp_arith! [wM_cot, flat_cot]
  refine came_number_ok fk hho cm.mF cm.ok ?_
  simp_arith [wM_cot, flat_cot]
  refine number_due_ok fk cm ?_
  rw [nm]
  simp_arith [wM_cot, flat_cot]
  refine same_ok 8 (.l [.i N, .i N]) rfl ?_
  simp_arith [wM_cot, flat_cot]
  simp_arith! [wM_cot, flat_cot]
  refine ⟨fun c => ?_, fun _ => q⟩
  refine standing_key_ok hF f60 cm.sub hp ?_
  obtain ⟨there2, m2, cm2, nm2⟩ := cm_ex hF pos (N := N + 1) (by omega) c
  have hho2 := cm_hou fk cm2
  have hp2 : ((F.filter fun v => !decide (v ∈ there2)) ++ there2).Perm F := by have := hho2.perm; simpa using this
  refine came_at_num (.inl rfl) ir hF f60 cm2 nm2.symm ?_
  simp_arith [wM_cot, flat_cot]
  refine standing_key_ok hF f60 cm2.sub hp2 ?_
  have kl := keyT_less hF pos (there, m) (there2, m2) cm cm2 (by rw [nm, nm2]; omega)
  rw [wO_ltTi, decide_eq_true kl]
  simp_arith [true_and]
  exact q
theorem weights_ok {n u : Nat} {t : Dt} (h : Tp (n + u + 3) t) (hu : u ≤ 500) {Q : Vl → Vl → Prop} (q : ∀ (ws : List Int) t', ws.length = u → (∀ w ∈ ws, 1 ≤ w ∧ w < 2 ^ 62) → ws.Pairwise (· < ·) → Tp n t' → Q (.l (ws.map .i), .t) (t', .t)) : wFn fn__law_weights [(t, .t), (.i u, .c)] Q := by
  simp_arith [fn__law_weights, m__law_weights]
  simp_arith! [true_and]
  refine draw_ok (n := n + u + 2) h (by omega) (by omega) fun k1 t1 a1 b1 h1 => ?_
  simp_arith [h1.zfl]
  refine wAt_I (ns := [1, 1, 3, 1000, 1000000000]) (P := fun s => 1 ≤ s ∧ s ≤ 1000000000) a1 b1 (by simp) fun s hs => ?_
  simp_arith [true_and]
  simp_arith! [true_and]
  refine draw_ok (n := n + u + 1) h1 (by omega) (by omega) fun k2 t2 a2 b2 h2 => ?_
  simp_arith [h2.zfl]
  refine draw_ok (n := n + u) h2 (by omega) (by omega) fun k3 t3 a3 b3 h3 => ?_
  simp_arith [h3.zfl]
  refine wAt_I (ns := [0, 0, k2, 1000000000000 - 42 * s]) (P := fun s => 0 ≤ s ∧ s ≤ 2 ^ 50) a3 b3 (by simp; omega) fun at0 hat => ?_
  simp_arith [true_and]
  rw [wS_seq]
  refine wS_for' ?_
  simp_arith [true_and]
  refine ⟨by omega, fun k r => ∃ (t : Dt) (ws : List Int) (at1 : Int) (o : Option Vl), r = [some (t, .t), some (.i u, .c), some (.i s, .c), some (.l (ws.map .i), .t), some (.i at1, .c), o] ∧ ws.length = k ∧ k ≤ u ∧ (∀ w ∈ ws, 1 ≤ w ∧ w ≤ at1) ∧ ws.Pairwise (· < ·) ∧ 0 ≤ at1 ∧ at1 ≤ 2 ^ 50 + k * 2 ^ 40 ∧ Tp (n + (u - k)) t, ⟨t3, [], at0, none, rfl, rfl, Nat.zero_le _, by simp, by simp, hat.1, by omega, h3⟩, ?_, ?_⟩
  · rintro k x _ hx ⟨t, ws, at1, o, rfl, hl, hk, hw, hp, h4, h5, ht⟩
    obtain ⟨rfl, hk2⟩ := rngD_at hx
    have hk3 : k < u := by omega
    simp_arith [true_and]
    simp_arith! [true_and]
    refine draw_ok (n := n + (u - (k + 1))) (ht.less (by omega)) (by omega) (by omega) fun k4 t4 a4 b4 h6 => ?_
    simp_arith [h6.zfl]
    refine ⟨by omega, t4, ws ++ [at1 + 1 + k4], at1 + 1 + k4, _, by rw [List.map_append]; rfl, by simp [hl], by omega, ?_, ?_, by omega, by omega, h6⟩
    · intro w hw2
      rcases List.mem_append.mp hw2 with hw2 | hw2
      · have := hw w hw2; omega
      · rw [List.mem_singleton.mp hw2]; omega
    · refine List.pairwise_append.mpr ⟨hp, by simp, fun a ha b hb => ?_⟩
      rw [List.mem_singleton.mp hb]
      have := hw a ha; omega
  · rintro _ ⟨t, ws, at1, o, rfl, hl, hk, hw, hp, h4, h5, ht⟩
    rw [rngD_len] at hl h5 ht
    simp_arith [true_and]
    exact q ws t (by omega) (fun w hw2 => by have := hw w hw2; omega) hp (ht.less (by omega))
theorem right_ok {n : Nat} {t : Dt} (h : Tp (n + 5000) t) {Q : Vl → Vl → Prop} (q : ∀ t', Tp n t' → Q (.b true, .c) (t', .t)) : wFn fn__law_right [(t, .t)] Q := by
  have lim : LIM = 1000000 := rfl
  simp_arith [fn__law_right, m__law_right]
  simp_arith! [true_and]
  refine draw_ok (n := n + 4999) h (by omega) (by omega) fun u t2 a2 b2 h2 => ?_
  simp_arith [h2.zfl]
  obtain ⟨u, rfl⟩ := Int.eq_ofNat_of_zero_le a2
  rw [show (7 : Int) + (u : Int) = ((u + 7 : Nat) : Int) by omega]
  refine weights_ok (n := n + 4900) (u := u + 7) (h2.less (by omega)) (by omega) fun F t3 hFl hFb hF h3 => ?_
  have fk : Fk F := ⟨hF, hFb, by omega⟩
  have pos : ∀ w ∈ F, 1 ≤ w := fun w h => (hFb w h).1
  have ir : isrt F = F := isrt_id (hF.imp fun h => by omega)
  have z0 : ∀ n : Nat, baseN n 0 = 3 + n + ((n : Int) - 2) * 2 ^ n := fun n => by unfold baseN; rw [show onesN 0 = 0 by simp [onesN]]; simp
  simp_arith [h3.zfl]
  simp_arith! [true_and]
  refine all_many_ok (n := F.length) (by omega) ?_
  simp_arith [true_and]
  rw [wS_seq]
  simp_arith [true_and]
  have w1 := base_up (t := 7) (t' := F.length) (by omega)
  have w2 := base_up (t := F.length) (t' := 40) (by omega)
  have w3 : baseN 7 0 = 650 := by rw [z0]; rfl
  have w4 : baseN 40 0 = 43 + 38 * 2 ^ 40 := by rw [z0]; rfl
  rw [w3] at w1
  rw [w4] at w2
  refine ⟨by omega, by rw [rngD_len]; omega, ?_⟩
  rw [show ((F.length : Int) + 1).toNat = F.length + 1 by omega]
  refine ⟨_, _, lc_mM (f := fun k : Nat => Dt.i (0 + (k : Int))) (us := List.range (F.length + 1)) (fun _ => .b false) fun k hk => ?_, ?_⟩
  · have hk := List.mem_range.mp hk
    rw [Int.zero_add]
    simp_arith [true_and]
    refine came_many_ok (t := k) (by omega) ?_
    rw [← z0]
    simp_arith [true_and]
    refine all_many_ok (n := k) (by omega) ?_
    simp_arith [true_and]
    refine same_ok 8 (.i _) rfl ?_
    simp_arith [true_and]
  obtain ⟨bs, hbs, hany⟩ : ∃ bs : List Bool, ((List.range (F.length + 1)).map fun _ => Dt.b false) = bs.map .b ∧ bs.any id = false := ⟨(List.range (F.length + 1)).map fun _ => false, by rw [List.map_map]; rfl, by simp⟩
  rw [hbs]
  simp_arith [true_and]
  rw [hany]
  simp_arith [true_and]
  simp_arith! [true_and]
  obtain ⟨W, hW⟩ : ∃ W, W = baseN F.length 0 := ⟨_, rfl⟩
  rw [← hW] at w1 w2 ⊢
  rw [wS_seq]
  refine wS_for' ?_
  simp_arith [true_and]
  refine ⟨fun k r => ∃ (t : Dt) (ns : List Int) (o4 o5 o6 : Option Vl), r = [some (t, .t), some (.l (F.map .i), .t), some (.i W, .c), some (.l (ns.map .i), .t), o4, o5, o6, none, none, none] ∧ ns.length = 4 + 3 * k ∧ (∀ N ∈ ns, 0 ≤ N ∧ N < W) ∧ Tp (n + 4000 + 10 * (20 - k)) t, ⟨t3, [0, 1, W - 1, W - 2], _, _, _, rfl, rfl, by simp; omega, h3.less (by omega)⟩, ?_, ?_⟩
  · rintro k x _ hx ⟨t, ns, o4, o5, o6, rfl, hl, hb, ht⟩
    obtain ⟨rfl, hk⟩ := rngD_at hx
    have hk : k < 8 := hk
    simp_arith [true_and]
    simp_arith! [true_and]
    refine draw_ok (n := n + 4000 + 10 * (20 - (k + 1)) + 9) (ht.less (by omega)) (by split <;> omega) (by split <;> omega) fun u1 t4 x1 y1 h4 => ?_
    simp_arith [h4.zfl]
    simp_arith! [true_and]
    refine draw_ok (n := n + 4000 + 10 * (20 - (k + 1)) + 8) (h4.less (by omega)) (by omega) (by omega) fun u2 t5 x2 y2 h5 => ?_
    simp_arith [h5.zfl]
    refine draw_ok (n := n + 4000 + 10 * (20 - (k + 1)) + 7) (h5.less (by omega)) (by omega) (by omega) fun u3 t6 x3 y3 h6 => ?_
    simp_arith [h6.zfl]
    have m1 := Int.emod_nonneg (u2 * 1000000 + u3) (show W ≠ 0 by omega)
    have m2 := Int.emod_lt_of_pos (u2 * 1000000 + u3) (show 0 < W by omega)
    generalize (u2 * 1000000 + u3) % W = u4 at m1 m2 ⊢
    refine ⟨by omega, by omega, t6, ns ++ [u1, u4, W - 1 - u4], _, _, _, by rw [List.map_append]; rfl, by simp; omega, fun N hN => ?_, h6.less (by omega)⟩
    rcases List.mem_append.mp hN with z | z
    · exact hb N z
    · simp only [List.mem_cons, List.not_mem_nil, or_false] at z
      rcases z with rfl | rfl | rfl
      · refine ⟨x1, ?_⟩
        split at y1 <;> omega
      · exact ⟨m1, m2⟩
      · omega
  · rintro _ ⟨t4, ns, o4, o5, o6, rfl, hl, hb, h4⟩
    rw [rngD_len] at hl
    simp_arith! [true_and]
    refine ⟨by omega, _, _, lc_mI (fun _ => .b true) fun N hN => ?_, ?_⟩
    · simp_arith [true_and]
      rw [hW]
      refine number_right_ok fk (hb N hN).1 (by rw [← hW]; exact (hb N hN).2) ?_
      simp_arith [true_and]
    rw [show (ns.map fun _ => Dt.b true) = (ns.map fun _ => true).map .b by rw [List.map_map]; rfl]
    simp_arith [true_and]
    rw [show (ns.map fun _ => true).all id = true by simp]
    simp_arith [true_and]
    have h4 : Tp (n + 3000) t4 := h4.less (by omega)
    rw [wS_seq]
    refine wS_for' ?_
    simp_arith [true_and]
    refine ⟨fun k r => ∃ (t : Dt) (o4 o7 o8 : Option Vl), r = [some (t, .t), some (.l (F.map .i), .t), some (.i W, .c), some (.l (ns.map .i), .c), o4, o5, o6, o7, o8, none] ∧ Tp (n + 200 * (15 - k)) t, ⟨t4, _, _, _, rfl, h4.less (by omega)⟩, ?_, ?_⟩
    · rintro k x _ hx ⟨t, o4, o7, o8, rfl, ht⟩
      obtain ⟨rfl, hk⟩ := rngD_at hx
      have hk : k < 12 := hk
      simp_arith [true_and]
      simp_arith! [true_and]
      refine cottage2_ok (n := n + 200 * (15 - (k + 1))) (ht.less (by omega)) (by omega) hFb fun here there m t' hS hh m0 m1 h5 => ?_
      have lS := hS.length_le
      have lH : here.length ≤ F.length := by rw [hh]; exact List.length_filter_le _ _
      have posA : ∀ w ∈ here, 1 ≤ w := fun w h => pos w (by rw [hh] at h; exact (List.mem_filter.mp h).1)
      have posB : ∀ w ∈ there, 1 ≤ w := fun w h => pos w (hS.subset h)
      simp_arith [h5.zfl, wM_cot, flat_cot]
      refine law_is_come_ok (by omega) posA posB ?_
      simp_arith [wM_cot, flat_cot]
      refine ⟨fun c => ?_, fun _ => ⟨t', _, _, _, rfl, h5⟩⟩
      rw [hh] at c ⊢
      have cm := cm_of hF pos hS c
      obtain ⟨r1, r2, _⟩ := cm_range hF cm
      simp_arith! [wM_cot, flat_cot]
      refine came_number_ok fk (cm_hou fk cm) cm.mF cm.ok ?_
      simp_arith [wM_cot, flat_cot]
      simp_arith! [wM_cot, flat_cot]
      refine number_due_ok fk cm ?_
      simp_arith [wM_cot, flat_cot]
      refine same_ok 8 (.i _) rfl ?_
      simp_arith [wM_cot, flat_cot]
      refine ⟨fun _ => ⟨fun c => absurd (show numF F there m < W by omega) c, fun _ => ?_⟩, fun c => absurd r1 c⟩
      refine came_at_num (.inl rfl) (isrt_id (hF.imp fun h => by omega)) hF (by omega) cm rfl ?_
      simp_arith [wM_cot, flat_cot]
      refine same_ok 8 _ (pl_hs (d := 4) (R := [F.filter fun v => !decide (v ∈ there), there]) (D := [m]) (fun r hr => by
        simp only [List.mem_cons, List.not_mem_nil, or_false] at hr
        rcases hr with rfl | rfl
        · rw [← hh]; omega
        · omega) (by simp) (by simp)) ?_
      simp_arith [wM_cot, flat_cot]
      exact ⟨t', _, _, _, rfl, h5⟩
    · rintro _ ⟨t, o4, o7, o8, rfl, ht⟩
      simp_arith! [true_and]
      exact q _ (ht.less (by omega))
theorem tape_ok {cs : List Int} {k : Int} (h0 : 0 ≤ k) (hk : k ≤ 1000) {Q : Vl → Vl → Prop} (q : ∀ t, Tp (2 ^ 29) t → Q (t, .t) (.n, .c)) : wFn fn__law_tape [(.l (cs.map .i), .c), (.i k, .c)] Q := by
  simp_arith [↓wS_seq, wS_seq, fn__law_tape, m__law_tape]
  refine ⟨fun h => ?_, fun h => ?_⟩
  · refine wAt_i h0 h fun c _ => ?_
    simp_arith [↓wS_seq, wS_seq]
    refine q _ ⟨_, _, _, rfl, by omega, by omega, by omega, by omega⟩
  · refine q _ ⟨_, _, _, rfl, by omega, by omega, by omega, by omega⟩
theorem law_true (ns : List Int) (h : ns.length ≤ 63) (hb : ∀ z ∈ ns, Builtin.Int.intBits z ≤ 1048576) : ∃ m z, fn_law [(.z (ns.map .i), .c)] = .rt (.b true, m) z := by
  have go : wFn fn_law [(.z (ns.map .i), .c)] fun x _ => x.1 = .b true := by
    simp_arith [fn_law, m_law]
    rw [wS_seq]
    simp_arith [true_and]
    refine folded_ok (u := 2) h (by omega) (by omega) fun cs hl => ?_
    simp_arith [true_and]
    have hw1 : (if (cs.length : Int) > 1 then (cs.length : Int) else 1) ≤ 100 := by split <;> omega
    have hw0 : 0 ≤ (if (cs.length : Int) > 1 then (cs.length : Int) else 1) := by split <;> omega
    generalize (if (cs.length : Int) > 1 then (cs.length : Int) else 1) = w at hw0 hw1 ⊢
    refine ⟨by omega, by rw [rngD_len]; omega, _, _, lc_map (fun _ => .b true) _ _ fun x hx => ?_, ?_⟩
    · obtain ⟨i, hi, rfl⟩ := mem_rngD hx
      simp_arith [true_and]
      refine tape_ok (by omega) (by omega) fun t ht => ?_
      simp_arith [wM_f ht.zfl]
      refine right_ok (n := 0) (ht.less (by omega)) fun t2 _ => ?_
      simp_arith [true_and]
    · rw [List.nil_append, map_true]
      simp_arith [all_true]
  obtain ⟨x, z, e, hx⟩ := wFn_ex go
  obtain ⟨x, m⟩ := x
  simp only at hx
  subst hx
  exact ⟨m, z, e⟩
end YL
open PySem PySem.W PyProof.Rows in
set_option maxRecDepth 100000 in
set_option maxHeartbeats 0 in
theorem PySem.Challenge.cw_sortdoors_k39_great_ones_by_their_number_holds : PySem.Challenge.rw_sortdoors_k39_great_ones_by_their_number.Holds := by
  w_on; o_law; k_head; (case hw => w_witness2)
  k_fill
  refine YL.walk (l := PySem.Challenge.rw_sortdoors_k39_great_ones_by_their_number) rfl rfl (fun w h Y => PySem.W.km_in_of Y) YL.law_true ?F
  case F =>
    intro w mg fa h KX G hmg
    refine' YL.all_mk KX G hmg ?a0 ?l0 ?c0 ?k0 ?a1 ?l1 ?c1 ?k1 ?a2 ?l2 ?c2 ?k2 ?a3 ?l3 ?c3 ?k3 ?a4 ?l4 ?c4 ?k4 ?a5 ?l5 ?c5 ?k5 ?a6 ?l6 ?c6 ?k6 ?a7 ?l7 ?c7 ?k7 ?a8 ?l8 ?c8 ?k8 ?a9 ?l9 ?c9 ?k9 ?a10 ?l10 ?c10 ?k10 ?a11 ?l11 ?c11 ?k11 ?a12 ?l12 ?c12 ?k12 ?a13 ?l13 ?c13 ?k13 ?a14 ?l14 ?c14 ?k14 ?a15 ?l15 ?c15 ?k15 ?a16 ?l16 ?c16 ?k16 ?a17 ?l17 ?c17 ?k17 ?a18 ?l18 ?c18 ?k18 ?a19 ?l19 ?c19 ?k19 ?a20 ?l20 ?c20 ?k20 ?a21 ?l21 ?c21 ?k21 ?a22 ?l22 ?c22 ?k22 ?a23 ?l23 ?c23 ?k23 ?a24 ?l24 ?c24 ?k24 ?z_abs ?z_all ?z_any ?z_bool ?z_enumerate ?z_int ?z_isinstance ?z_len ?z_list ?z_max ?z_min ?z_range ?z_sorted ?z_str ?z_sum ?z_tuple ?z_zip ?tl1 ?tl2 ?tl3 ?tl4 ?tl5 ?tl6 ?nl_1
    (case a0 => k_is)
    (case l0 => k_is)
    (case c0 => k_is)
    (case k0 => k_is)
    (case a1 => k_is)
    (case l1 => k_is)
    (case c1 => k_is)
    (case k1 => k_is)
    (case a2 => k_is)
    (case l2 => k_is)
    (case c2 => k_is)
    (case k2 => k_is)
    (case a3 => k_is)
    (case l3 => k_is)
    (case c3 => k_is)
    (case k3 => k_is)
    (case a4 => k_is)
    (case l4 => k_is)
    (case c4 => k_is)
    (case k4 => k_is)
    (case a5 => k_is)
    (case l5 => k_is)
    (case c5 => k_is)
    (case k5 => k_is)
    (case a6 => k_is)
    (case l6 => k_is)
    (case c6 => k_is)
    (case k6 => k_is)
    (case a7 => k_is)
    (case l7 => k_is)
    (case c7 => k_is)
    (case k7 => k_is)
    (case a8 => k_is)
    (case l8 => k_is)
    (case c8 => k_is)
    (case k8 => k_is)
    (case a9 => k_is)
    (case l9 => k_is)
    (case c9 => k_is)
    (case k9 => k_is)
    (case a10 => k_is)
    (case l10 => k_is)
    (case c10 => k_is)
    (case k10 => k_is)
    (case a11 => k_is)
    (case l11 => k_is)
    (case c11 => k_is)
    (case k11 => k_is)
    (case a12 => k_is)
    (case l12 => k_is)
    (case c12 => k_is)
    (case k12 => k_is)
    (case a13 => k_is)
    (case l13 => k_is)
    (case c13 => k_is)
    (case k13 => k_is)
    (case a14 => k_is)
    (case l14 => k_is)
    (case c14 => k_is)
    (case k14 => k_is)
    (case a15 => k_is)
    (case l15 => k_is)
    (case c15 => k_is)
    (case k15 => k_is)
    (case a16 => k_is)
    (case l16 => k_is)
    (case c16 => k_is)
    (case k16 => k_is)
    (case a17 => k_is)
    (case l17 => k_is)
    (case c17 => k_is)
    (case k17 => k_is)
    (case a18 => k_is)
    (case l18 => k_is)
    (case c18 => k_is)
    (case k18 => k_is)
    (case a19 => k_is)
    (case l19 => k_is)
    (case c19 => k_is)
    (case k19 => k_is)
    (case a20 => k_is)
    (case l20 => k_is)
    (case c20 => k_is)
    (case k20 => k_is)
    (case a21 => k_is)
    (case l21 => k_is)
    (case c21 => k_is)
    (case k21 => k_is)
    (case a22 => k_is)
    (case l22 => k_is)
    (case c22 => k_is)
    (case k22 => k_is)
    (case a23 => k_is)
    (case l23 => k_is)
    (case c23 => k_is)
    (case k23 => k_is)
    (case a24 => k_is)
    (case l24 => k_is)
    (case c24 => k_is)
    (case k24 => k_is)
    (case z_abs => k_is)
    (case z_all => k_is)
    (case z_any => k_is)
    (case z_bool => k_is)
    (case z_enumerate => k_is)
    (case z_int => k_is)
    (case z_isinstance => k_is)
    (case z_len => k_is)
    (case z_list => k_is)
    (case z_max => k_is)
    (case z_min => k_is)
    (case z_range => k_is)
    (case z_sorted => k_is)
    (case z_str => k_is)
    (case z_sum => k_is)
    (case z_tuple => k_is)
    (case z_zip => k_is)
    (case tl1 => rfl)
    (case tl2 => k_is)
    (case tl3 => rfl)
    (case tl4 => rfl)
    (case tl5 => first | rfl | kernel_rfl)
    (case tl6 => rfl)
    (case nl_1 => k_is)
